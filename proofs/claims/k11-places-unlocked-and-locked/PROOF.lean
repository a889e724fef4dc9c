import PyProof.Rows.All
import Wide.All
import OpenK.AllK
import Wide.FinOn
import HandS.ForMost
import HandS.Evl
import HandS.IsInst
import HandS.TupAny
import HandS.Zip
import HandS.Walk
import HandS.Defaults
import HandS.Style
import HandS.Flow
import HandS.EndBits
import HandS.Wide
import HandS.Exc
import HandS.Iter
import KE.SortKeyHeap
import KE.DataCmp
import HandS.SortKw
import HandS.Deep
import HandS.DeepEq
import KE.DataEq
import HandS.Zip0
import HandS.Dict
import HandS.DictComp
import HandS.DictTup
import KE.GoesEnumKw
import KE.KEqDict
import PyProof.InstNe
import KE.RegKIsAll
import KE.GoesEnum
import KE.GoesZip
import KE.GoesMore
import PyProof.CollectIter
import PyProof.WalksMore
import KE.KTupSum
import HandS.TupMul
import HandS.Conv
import HandS.CallSlots
import HandS.ExcInit
import HandS.ExcField
import HandS.ExcIs
import HandS.WordsExc
import HandS.RaiseMore
import HandS.TryOnly
import HandS.More
import HandS.CallLocal
import HandS.MakeKwOnly
import PySem.Challenge.RW_crowdpurse_k11_places_unlocked_and_locke
set_option Elab.async false
set_option linter.all false
set_option maxRecDepth 100000
set_option maxHeartbeats 4000000
/-! Dn: data (values without addresses), a memory of the few things that change, and what a text of the program makes of them, as plain functions -/
namespace Dn
open PySem L2 Evl

/-- data: what a value is, down to the innermost; ptr: a thing that may change, by its number; raw: anything else -/
inductive D where
  | non | bl (b : Bool) | int (i : Int) | str (s : Str)
  | lst (xs : List D) | tup (xs : List D) | dct (kvs : List (Key × D)) | dcT (kvs : List (List Key × D)) | ins (x : Str) (fs : List (Str × D)) | fn (x : Str) | scr (ns : List Int) | ptr (n : Nat) | raw (v : V)
/-- a thing that may change -/
inductive Ob where
  | lst (xs : List D) | dK (kvs : List (Key × D)) | dT (kvs : List (List Key × D)) | ins (x : Str) (fs : List (Str × D)) | gone
abbrev Mem := List Ob
abbrev Dv := List (Option D)
/-- an error: its class by name, its fields -/
structure Exc where
  cls : Str
  fs : List (Str × D)
/-- what comes: a value, an error, or nothing is said -/
inductive R (α : Type) where
  | ok (a : α) (m : Mem) | ex (e : Exc) (m : Mem) | no
def R.bind {α β : Type} : R α → (α → Mem → R β) → R β
  | .ok a m, k => k a m
  | .ex e m, _ => .ex e m
  | .no, _ => .no
/-- where no error may leave -/
def R.calm {α : Type} : R α → R α
  | .ok a m => .ok a m
  | _ => .no
def R.of {α : Type} (o : Option α) (m : Mem) : R α := match o with
  | some a => .ok a m
  | none => .no
@[simp] theorem R.bind_ok {α β : Type} (a : α) (m : Mem) (k : α → Mem → R β) : (R.ok a m).bind k = k a m := rfl
@[simp] theorem R.bind_ex {α β : Type} (e : Exc) (m : Mem) (k : α → Mem → R β) : (R.ex e m).bind k = .ex e m := rfl
@[simp] theorem R.bind_no {α β : Type} (k : α → Mem → R β) : (R.no).bind k = .no := rfl
@[simp] theorem R.calm_ok {α : Type} (a : α) (m : Mem) : (R.ok a m).calm = .ok a m := rfl
@[simp] theorem R.of_some {α : Type} (a : α) (m : Mem) : R.of (some a) m = .ok a m := rfl
@[simp] theorem R.of_none {α : Type} (m : Mem) : R.of (none : Option α) m = .no := rfl

/-! ### what stands for what -/
mutual
inductive Rp (K : PySem.W.Frag) (B : Hp) (ρ : List Addr) : D → V → Prop
  | non : Rp K B ρ .non .non
  | bl (b : Bool) : Rp K B ρ (.bl b) (.bl b)
  | int (i : Int) : Rp K B ρ (.int i) (.int i)
  | str (s : Str) : Rp K B ρ (.str s) (.str s)
  | lst {a : Addr} {vs : List V} {ds : List D} : B a = some (.lst vs) → Rps K B ρ ds vs → Rp K B ρ (.lst ds) (.ref a)
  | tup {a : Addr} {vs : List V} {ds : List D} : SqT K B a vs → Rps K B ρ ds vs → (vs = [] ∨ B a = some (.tup vs)) → Rp K B ρ (.tup ds) (.ref a)
  | dct {a : Addr} {o : Obj} {kvs : List (Key × V)} {kds : List (Key × D)} : B a = some (.frz o (.dK kvs)) → Rpk K B ρ kds kvs → Rp K B ρ (.dct kds) (.ref a)
  | dcT {a : Addr} {o : Obj} {kvs : List (List Key × V)} {kds : List (List Key × D)} : B a = some (.frz o (.dT kvs)) → Rpt K B ρ kds kvs → Rp K B ρ (.dcT kds) (.ref a)
  | ins {a C dx : Addr} {x : Str} {gs : List (Str × V)} {fs : List (Str × D)} : PySem.W.nsIn K mainGlobals x = some (some (.ref C)) → B a = some (.ins C dx gs) → Rpf K B ρ fs gs → Rp K B ρ (.ins x fs) (.ref a)
  | fn {a : Addr} {x : Str} : PySem.W.nsIn K mainGlobals x = some (some (.ref a)) → Rp K B ρ (.fn x) (.ref a)
  | scr {a : Addr} {ns : List Int} : SqL K B a (ns.map V.int) → Rp K B ρ (.scr ns) (.ref a)
  | ptr {n : Nat} {a : Addr} : ρ[n]? = some a → Rp K B ρ (.ptr n) (.ref a)
  | raw (v : V) : Rp K B ρ (.raw v) v
inductive Rps (K : PySem.W.Frag) (B : Hp) (ρ : List Addr) : List D → List V → Prop
  | nil : Rps K B ρ [] []
  | cons {d : D} {v : V} {ds : List D} {vs : List V} : Rp K B ρ d v → Rps K B ρ ds vs → Rps K B ρ (d :: ds) (v :: vs)
inductive Rpk (K : PySem.W.Frag) (B : Hp) (ρ : List Addr) : List (Key × D) → List (Key × V) → Prop
  | nil : Rpk K B ρ [] []
  | cons {k : Key} {d : D} {v : V} {ds : List (Key × D)} {vs : List (Key × V)} : Rp K B ρ d v → Rpk K B ρ ds vs → Rpk K B ρ ((k, d) :: ds) ((k, v) :: vs)
inductive Rpt (K : PySem.W.Frag) (B : Hp) (ρ : List Addr) : List (List Key × D) → List (List Key × V) → Prop
  | nil : Rpt K B ρ [] []
  | cons {k : List Key} {d : D} {v : V} {ds : List (List Key × D)} {vs : List (List Key × V)} : Rp K B ρ d v → Rpt K B ρ ds vs → Rpt K B ρ ((k, d) :: ds) ((k, v) :: vs)
inductive Rpf (K : PySem.W.Frag) (B : Hp) (ρ : List Addr) : List (Str × D) → List (Str × V) → Prop
  | nil : Rpf K B ρ [] []
  | cons {k : Str} {d : D} {v : V} {ds : List (Str × D)} {vs : List (Str × V)} : Rp K B ρ d v → Rpf K B ρ ds vs → Rpf K B ρ ((k, d) :: ds) ((k, v) :: vs)
end
/-- more is known -/
def Le (B : Hp) (ρ : List Addr) (B' : Hp) (ρ' : List Addr) : Prop := Ex B B' ∧ ∃ z, ρ' = ρ ++ z
theorem Le.refl (B : Hp) (ρ : List Addr) : Le B ρ B ρ := ⟨Ex.refl B, [], by simp⟩
theorem Le.trans {B B1 B2 : Hp} {ρ ρ1 ρ2 : List Addr} (a : Le B ρ B1 ρ1) (b : Le B1 ρ1 B2 ρ2) : Le B ρ B2 ρ2 := by
  obtain ⟨e, z, rfl⟩ := a
  obtain ⟨e', z', rfl⟩ := b
  exact ⟨e.trans e', z ++ z', by simp⟩
theorem Le.at {B B1 : Hp} {ρ ρ1 : List Addr} (a : Le B ρ B1 ρ1) {n : Nat} {x : Addr} (h : ρ[n]? = some x) : ρ1[n]? = some x := by
  obtain ⟨_, z, rfl⟩ := a
  have hl := (List.getElem?_eq_some_iff.mp h).1
  rw [List.getElem?_append_left hl]
  exact h
section
variable {K : PySem.W.Frag} {B B' : Hp} {ρ ρ' : List Addr}
mutual
theorem Rp.mono (l : Le B ρ B' ρ') : ∀ {d : D} {v : V}, Rp K B ρ d v → Rp K B' ρ' d v
  | _, _, .non => .non
  | _, _, .bl b => .bl b
  | _, _, .int i => .int i
  | _, _, .str s => .str s
  | _, _, .lst h r => .lst (l.1 _ _ h) (Rps.mono l r)
  | _, _, .scr h => .scr (ex_l l.1 h)
  | _, _, .tup h r z => .tup (ex_t l.1 h) (Rps.mono l r) (z.imp id fun q => l.1 _ _ q)
  | _, _, .dct h r => .dct (l.1 _ _ h) (Rpk.mono l r)
  | _, _, .dcT h r => .dcT (l.1 _ _ h) (Rpt.mono l r)
  | _, _, .ins c h r => .ins c (l.1 _ _ h) (Rpf.mono l r)
  | _, _, .fn c => .fn c
  | _, _, .ptr h => .ptr (l.at h)
  | _, _, .raw v => .raw v
theorem Rps.mono (l : Le B ρ B' ρ') : ∀ {ds : List D} {vs : List V}, Rps K B ρ ds vs → Rps K B' ρ' ds vs
  | _, _, .nil => .nil
  | _, _, .cons h t => .cons (Rp.mono l h) (Rps.mono l t)
theorem Rpk.mono (l : Le B ρ B' ρ') : ∀ {ds : List (Key × D)} {vs : List (Key × V)}, Rpk K B ρ ds vs → Rpk K B' ρ' ds vs
  | _, _, .nil => .nil
  | _, _, .cons h t => .cons (Rp.mono l h) (Rpk.mono l t)
theorem Rpt.mono (l : Le B ρ B' ρ') : ∀ {ds : List (List Key × D)} {vs : List (List Key × V)}, Rpt K B ρ ds vs → Rpt K B' ρ' ds vs
  | _, _, .nil => .nil
  | _, _, .cons h t => .cons (Rp.mono l h) (Rpt.mono l t)
theorem Rpf.mono (l : Le B ρ B' ρ') : ∀ {ds : List (Str × D)} {vs : List (Str × V)}, Rpf K B ρ ds vs → Rpf K B' ρ' ds vs
  | _, _, .nil => .nil
  | _, _, .cons h t => .cons (Rp.mono l h) (Rpf.mono l t)
end
/-- the same, pair by pair -/
abbrev PrD {κ : Type} (K : PySem.W.Frag) (B : Hp) (ρ : List Addr) : κ × D → κ × V → Prop := fun p q => p.1 = q.1 ∧ Rp K B ρ p.2 q.2
theorem Rpk.prs : ∀ {ds : List (Key × D)} {vs : List (Key × V)}, Rpk K B ρ ds vs → Paired (PrD K B ρ) ds vs
  | _, _, .nil => .nil
  | _, _, .cons h t => .cons ⟨rfl, h⟩ t.prs
theorem Rpt.prs : ∀ {ds : List (List Key × D)} {vs : List (List Key × V)}, Rpt K B ρ ds vs → Paired (PrD K B ρ) ds vs
  | _, _, .nil => .nil
  | _, _, .cons h t => .cons ⟨rfl, h⟩ t.prs
theorem Rpf.prs : ∀ {ds : List (Str × D)} {vs : List (Str × V)}, Rpf K B ρ ds vs → Paired (PrD K B ρ) ds vs
  | _, _, .nil => .nil
  | _, _, .cons h t => .cons ⟨rfl, h⟩ t.prs
theorem rpk_of : ∀ {ds : List (Key × D)} {vs : List (Key × V)}, Paired (PrD K B ρ) ds vs → Rpk K B ρ ds vs
  | _, _, .nil => .nil
  | (_, _) :: _, (_, _) :: _, .cons ⟨e, h⟩ t => by
    cases e
    exact .cons h (rpk_of t)
theorem rpt_of : ∀ {ds : List (List Key × D)} {vs : List (List Key × V)}, Paired (PrD K B ρ) ds vs → Rpt K B ρ ds vs
  | _, _, .nil => .nil
  | (_, _) :: _, (_, _) :: _, .cons ⟨e, h⟩ t => by
    cases e
    exact .cons h (rpt_of t)
theorem rpf_of : ∀ {ds : List (Str × D)} {vs : List (Str × V)}, Paired (PrD K B ρ) ds vs → Rpf K B ρ ds vs
  | _, _, .nil => .nil
  | (_, _) :: _, (_, _) :: _, .cons ⟨e, h⟩ t => by
    cases e
    exact .cons h (rpf_of t)
theorem Rps.len : ∀ {ds : List D} {vs : List V}, Rps K B ρ ds vs → ds.length = vs.length
  | _, _, .nil => rfl
  | _, _, .cons _ t => by rw [List.length_cons, List.length_cons, t.len]
theorem Rps.get : ∀ {ds : List D} {vs : List V} {i : Nat} {d : D}, Rps K B ρ ds vs → ds[i]? = some d → ∃ v, vs[i]? = some v ∧ Rp K B ρ d v
  | _, _, _, _, .nil, e => by simp at e
  | _, _, 0, _, .cons h _, e => by simp at e; subst e; exact ⟨_, rfl, h⟩
  | _, _, i + 1, d, .cons _ t, e => by
    obtain ⟨v, h1, h2⟩ := t.get (i := i) (d := d) (by simpa using e)
    exact ⟨v, by simpa using h1, h2⟩
theorem Rps.getV : ∀ {ds : List D} {vs : List V} {i : Nat} {v : V}, Rps K B ρ ds vs → vs[i]? = some v → ∃ d, ds[i]? = some d ∧ Rp K B ρ d v
  | _, _, _, _, .nil, e => by simp at e
  | _, _, 0, _, .cons h _, e => by simp at e; subst e; exact ⟨_, rfl, h⟩
  | _, _, i + 1, v, .cons _ t, e => by
    obtain ⟨d, h1, h2⟩ := t.getV (i := i) (v := v) (by simpa using e)
    exact ⟨d, by simpa using h1, h2⟩
theorem Rps.app : ∀ {ds es : List D} {vs us : List V}, Rps K B ρ ds vs → Rps K B ρ es us → Rps K B ρ (ds ++ es) (vs ++ us)
  | _, _, _, _, .nil, s => s
  | _, _, _, _, .cons h t, s => .cons h (t.app s)
theorem Rps.take : ∀ {ds : List D} {vs : List V} (n : Nat), Rps K B ρ ds vs → Rps K B ρ (ds.take n) (vs.take n)
  | _, _, 0, _ => by simp; exact .nil
  | _, _, _ + 1, .nil => by simp; exact .nil
  | _, _, n + 1, .cons h t => by simp; exact .cons h (t.take n)
theorem Rps.drop : ∀ {ds : List D} {vs : List V} (n : Nat), Rps K B ρ ds vs → Rps K B ρ (ds.drop n) (vs.drop n)
  | _, _, 0, r => by simpa using r
  | _, _, _ + 1, .nil => by simp; exact .nil
  | _, _, n + 1, .cons h t => by simp; exact t.drop n
theorem Rps.set : ∀ {ds : List D} {vs : List V} {d : D} {v : V} (n : Nat), Rps K B ρ ds vs → Rp K B ρ d v → Rps K B ρ (ds.set n d) (vs.set n v)
  | _, _, _, _, _, .nil, _ => .nil
  | _, _, _, _, 0, .cons _ t, h => .cons h t
  | _, _, _, _, n + 1, .cons g t, h => .cons g (t.set n h)
theorem Rps.snoc {ds : List D} {vs : List V} {d : D} {v : V} (r : Rps K B ρ ds vs) (h : Rp K B ρ d v) : Rps K B ρ (ds ++ [d]) (vs ++ [v]) := r.app (.cons h .nil)
theorem Rps.rev : ∀ {ds : List D} {vs : List V}, Rps K B ρ ds vs → Rps K B ρ ds.reverse vs.reverse
  | _, _, .nil => .nil
  | _, _, .cons h t => by
    rw [List.reverse_cons, List.reverse_cons]
    exact t.rev.snoc h
end

/-! ### the memory -/
def ObR (K : PySem.W.Frag) (B : Hp) (ρ : List Addr) (H : Hp) (a : Addr) : Ob → Prop
  | .lst ds => ∃ vs, H a = some (.lst vs) ∧ Rps K B ρ ds vs
  | .dK kds => ∃ kvs, H a = some (.dK kvs) ∧ Rpk K B ρ kds kvs
  | .dT kds => ∃ kvs : List (List Key × V), H a = some (.dT kvs) ∧ Paired (fun (p : List Key × D) (q : List Key × V) => p.1 = q.1 ∧ Rp K B ρ p.2 q.2) kds kvs
  | .ins x fs => ∃ (C dx : Addr) (gs : List (Str × V)), PySem.W.nsIn K mainGlobals x = some (some (.ref C)) ∧ H a = some (.ins C dx gs) ∧ Paired (fun (p : Str × D) (q : Str × V) => p.1 = q.1 ∧ Rp K B ρ p.2 q.2) fs gs
  | .gone => ∃ o, H a = some o
theorem ObR.there {K : PySem.W.Frag} {B H : Hp} {ρ : List Addr} {a : Addr} {o : Ob} (r : ObR K B ρ H a o) : ∃ u, H a = some u := by
  cases o with
  | lst ds => obtain ⟨_, h, _⟩ := r; exact ⟨_, h⟩
  | dK ds => obtain ⟨_, h, _⟩ := r; exact ⟨_, h⟩
  | dT ds => obtain ⟨_, h, _⟩ := r; exact ⟨_, h⟩
  | ins C fs => obtain ⟨_, _, _, _, h, _⟩ := r; exact ⟨_, h⟩
  | gone => exact r
theorem ObR.mono {K : PySem.W.Frag} {B B' H H' : Hp} {ρ ρ' : List Addr} {a : Addr} {o : Ob} (l : Le B ρ B' ρ') (e : ∀ u, H a = some u → H' a = some u) (r : ObR K B ρ H a o) : ObR K B' ρ' H' a o := by
  cases o with
  | lst ds => obtain ⟨vs, h, q⟩ := r; exact ⟨vs, e _ h, q.mono l⟩
  | dK ds => obtain ⟨vs, h, q⟩ := r; exact ⟨vs, e _ h, q.mono l⟩
  | dT ds => obtain ⟨vs, h, q⟩ := r; exact ⟨vs, e _ h, Paired.mapP q fun _ _ z => ⟨z.1, z.2.mono l⟩⟩
  | ins x fs => obtain ⟨C, dx, gs, hc, h, q⟩ := r; exact ⟨C, dx, gs, hc, e _ h, Paired.mapP q fun _ _ z => ⟨z.1, z.2.mono l⟩⟩
  | gone => obtain ⟨u, h⟩ := r; exact ⟨u, e _ h⟩
structure MR (K : PySem.W.Frag) (F B : Hp) (ρ : List Addr) (M : Mem) (H : Hp) : Prop where
  ex : Ex B H
  fr : Ex F H
  dj : ∀ a o, F a = some o → B a = none ∧ a ∉ ρ
  len : ρ.length = M.length
  nd : ρ.Nodup
  ob : ∀ (n : Nat) (o : Ob), M[n]? = some o → ∃ a, ρ[n]? = some a ∧ (o ≠ .gone → B a = none) ∧ ObR K B ρ H a o
  nt : ∀ a ys, F a ≠ some (.tup ys)
section
variable {K : PySem.W.Frag} {F B H : Hp} {ρ : List Addr} {M : Mem}
theorem MR.there (m : MR K F B ρ M H) {n : Nat} {a : Addr} (h : ρ[n]? = some a) : ∃ u, H a = some u := by
  have hl := (List.getElem?_eq_some_iff.mp h).1
  have hm : M[n]? = some (M[n]'(by rw [← m.len]; exact hl)) := List.getElem?_eq_getElem _
  obtain ⟨b, hb, _, r⟩ := m.ob n _ hm
  rw [h] at hb
  cases hb
  exact r.there
theorem MR.notin (m : MR K F B ρ M H) {p : Addr} (hp : H p = none) : p ∉ ρ := fun hm => by
  obtain ⟨n, h⟩ := List.getElem?_of_mem hm
  obtain ⟨u, e⟩ := m.there h
  rw [hp] at e
  cases e
/-- a new thing that stays as it is -/
theorem MR.new (m : MR K F B ρ M H) {p : Addr} {o : HO} (hp : H p = none) : MR K F (upd B p o) ρ M (upd H p o) ∧ Le B ρ (upd B p o) ρ := by
  have hb : B p = none := fresh_back m.ex hp
  have l : Le B ρ (upd B p o) ρ := ⟨Ex.new hb, [], by simp⟩
  refine ⟨⟨fun a u e => ?_, fun a u e => ?_, fun a u e => ?_, m.len, m.nd, fun n ob h => ?_, m.nt⟩, l⟩
  · by_cases q : a = p
    · subst q
      rw [upd_same] at e ⊢
      exact e
    · rw [upd_ne q] at e ⊢
      exact m.ex a u e
  · rw [upd_ne (ne_of_none (m.fr a u e) hp)]
    exact m.fr a u e
  · rw [upd_ne (ne_of_none (m.fr a u e) hp)]
    exact m.dj a u e
  · obtain ⟨a, ha, hB, r⟩ := m.ob n ob h
    obtain ⟨u, hu⟩ := r.there
    have na : a ≠ p := ne_of_none hu hp
    exact ⟨a, ha, fun z => by rw [upd_ne na]; exact hB z, r.mono l fun w q => by rw [upd_ne na]; exact q⟩
/-- a heap that has more -/
theorem MR.more (m : MR K F B ρ M H) {H' : Hp} (e : Ex H H') : MR K F B ρ M H' :=
  ⟨m.ex.trans e, m.fr.trans e, m.dj, m.len, m.nd, fun n ob h => by
    obtain ⟨a, ha, hB, r⟩ := m.ob n ob h
    exact ⟨a, ha, hB, r.mono (Le.refl _ _) fun w q => e a w q⟩, m.nt⟩
/-- a new thing that may change -/
theorem MR.alloc (m : MR K F B ρ M H) {p : Addr} {o : HO} {ob : Ob} (hp : H p = none) (r : ObR K B (ρ ++ [p]) (upd H p o) p ob) : MR K F B (ρ ++ [p]) (M ++ [ob]) (upd H p o) ∧ Le B ρ B (ρ ++ [p]) := by
  have hb : B p = none := fresh_back m.ex hp
  have l : Le B ρ B (ρ ++ [p]) := ⟨Ex.refl B, [p], rfl⟩
  refine ⟨⟨fun a u e => ?_, fun a u e => ?_, fun a u e => ?_, by simp [m.len], ?_, fun n o' h => ?_, m.nt⟩, l⟩
  · rw [upd_ne (ne_of_none e hb)]
    exact m.ex a u e
  · rw [upd_ne (ne_of_none (m.fr a u e) hp)]
    exact m.fr a u e
  · refine ⟨(m.dj a u e).1, fun z => ?_⟩
    rcases List.mem_append.mp z with z | z
    · exact (m.dj a u e).2 z
    · simp at z
      exact ne_of_none (m.fr a u e) hp z
  · rw [List.nodup_append]
    refine ⟨m.nd, by simp, fun a ha b hb' => ?_⟩
    simp at hb'
    subst hb'
    exact fun e => m.notin hp (e ▸ ha)
  · by_cases hn : n < M.length
    · rw [List.getElem?_append_left hn] at h
      obtain ⟨a, ha, hB, q⟩ := m.ob n o' h
      obtain ⟨u, hu⟩ := q.there
      have na : a ≠ p := ne_of_none hu hp
      exact ⟨a, l.at ha, hB, q.mono l fun w z => by rw [upd_ne na]; exact z⟩
    · rw [List.getElem?_append_right (by omega)] at h
      have hz : n - M.length = 0 := by
        have := (List.getElem?_eq_some_iff.mp h).1
        simp at this
        omega
      rw [hz] at h
      simp at h
      subst h
      have en : n = ρ.length := by rw [m.len]; omega
      exact ⟨p, by rw [en]; simp, fun _ => hb, r⟩
/-- a thing changed -/
theorem MR.put (m : MR K F B ρ M H) {n : Nat} {a : Addr} {o : HO} {ob old : Ob} (ha : ρ[n]? = some a) (ho : M[n]? = some old) (hg : old ≠ .gone) (r : ObR K B ρ (upd H a o) a ob) : MR K F B ρ (M.set n ob) (upd H a o) := by
  have hB : B a = none := by
    obtain ⟨b, hb, q, _⟩ := m.ob n old ho
    rw [ha] at hb
    cases hb
    exact q hg
  refine ⟨fun b u e => ?_, fun b u e => ?_, m.dj, by simp [m.len], m.nd, fun k o' h => ?_, m.nt⟩
  · rw [upd_ne (ne_of_none e hB)]
    exact m.ex b u e
  · have nb : b ≠ a := fun z => (m.dj b u e).2 (z ▸ List.mem_of_getElem? ha)
    rw [upd_ne nb]
    exact m.fr b u e
  · by_cases hk : k = n
    · subst hk
      have hl := (List.getElem?_eq_some_iff.mp ho).1
      rw [List.getElem?_set_self hl] at h
      cases h
      exact ⟨a, ha, fun _ => hB, r⟩
    · rw [List.getElem?_set_ne (Ne.symm hk)] at h
      obtain ⟨b, hb, hq, q⟩ := m.ob k o' h
      have nb : b ≠ a := fun e => by
        subst e
        exact hk (nodup_ix' m.nd hb ha)
      exact ⟨b, hb, hq, q.mono (Le.refl _ _) fun w z => by rw [upd_ne nb]; exact z⟩
where
  nodup_ix' {N : List Addr} (hN : N.Nodup) {i j : Nat} {x : Addr} (a : N[i]? = some x) (b : N[j]? = some x) : i = j := by
    obtain ⟨h1, e1⟩ := List.getElem?_eq_some_iff.mp a
    obtain ⟨h2, e2⟩ := List.getElem?_eq_some_iff.mp b
    exact (List.getElem_inj hN).mp (e1.trans e2.symm)
end

/-- a thing that changes no more -/
theorem MR.freeze {K : PySem.W.Frag} {F B H : Hp} {ρ : List Addr} {M : Mem} (m : MR K F B ρ M H) {n : Nat} {a : Addr} {o : HO} {ob : Ob} (ha : ρ[n]? = some a) (hm : M[n]? = some ob) (hg : ob ≠ .gone) (hH : H a = some o) : MR K F (upd B a o) ρ (M.set n .gone) H ∧ Le B ρ (upd B a o) ρ := by
  have hB : B a = none := by
    obtain ⟨b, hb, q, _⟩ := m.ob n ob hm
    rw [ha] at hb
    cases hb
    exact q hg
  have l : Le B ρ (upd B a o) ρ := ⟨Ex.new hB, [], by simp⟩
  refine ⟨⟨fun b u e => ?_, m.fr, fun b u e => ?_, by simp [m.len], m.nd, fun k o' h => ?_, m.nt⟩, l⟩
  · by_cases q : b = a
    · subst q
      rw [upd_same] at e
      cases e
      exact hH
    · rw [upd_ne q] at e
      exact m.ex b u e
  · have nb : b ≠ a := fun z => (m.dj b u e).2 (z ▸ List.mem_of_getElem? ha)
    rw [upd_ne nb]
    exact m.dj b u e
  · by_cases hk : k = n
    · subst hk
      have hl := (List.getElem?_eq_some_iff.mp hm).1
      rw [List.getElem?_set_self hl] at h
      cases h
      exact ⟨a, ha, fun z => absurd rfl z, o, hH⟩
    · rw [List.getElem?_set_ne (Ne.symm hk)] at h
      obtain ⟨b, hb, hq, q⟩ := m.ob k o' h
      have nb : b ≠ a := fun e => by
        subst e
        exact hk (MR.put.nodup_ix' m.nd hb ha)
      exact ⟨b, hb, fun z => by rw [upd_ne nb]; exact hq z, q.mono l fun w z => z⟩
/-- what is told of a thing, otherwise -/
theorem MR.retell {K : PySem.W.Frag} {F B H : Hp} {ρ : List Addr} {M : Mem} (m : MR K F B ρ M H) {n : Nat} {a : Addr} {ob old : Ob} (ha : ρ[n]? = some a) (hm : M[n]? = some old) (hg : old ≠ .gone) (r : ObR K B ρ H a ob) : MR K F B ρ (M.set n ob) H := by
  refine ⟨m.ex, m.fr, m.dj, by simp [m.len], m.nd, fun k o' h => ?_, m.nt⟩
  by_cases hk : k = n
  · subst hk
    have hl := (List.getElem?_eq_some_iff.mp hm).1
    rw [List.getElem?_set_self hl] at h
    cases h
    obtain ⟨b, hb, q, _⟩ := m.ob k old hm
    rw [ha] at hb
    cases hb
    exact ⟨a, ha, fun _ => q hg, r⟩
  · rw [List.getElem?_set_ne (Ne.symm hk)] at h
    exact m.ob k o' h
theorem ObR.notup {K : PySem.W.Frag} {B H : Hp} {ρ : List Addr} {a : Addr} {o : Ob} {ys : List V} (r : ObR K B ρ H a o) (h : H a = some (.tup ys)) : o = .gone := by
  cases o with
  | lst ds => obtain ⟨_, e, _⟩ := r; rw [h] at e; cases e
  | dK ds => obtain ⟨_, e, _⟩ := r; rw [h] at e; cases e
  | dT ds => obtain ⟨_, e, _⟩ := r; rw [h] at e; cases e
  | ins C fs => obtain ⟨_, _, _, _, e, _⟩ := r; rw [h] at e; cases e
  | gone => rfl
/-- a tuple that stands is known from now on -/
theorem MR.know {K : PySem.W.Frag} {F B H : Hp} {ρ : List Addr} {M : Mem} (m : MR K F B ρ M H) {b : Addr} {ys : List V} (hb : H b = some (.tup ys)) : ∃ B', Le B ρ B' ρ ∧ MR K F B' ρ M H ∧ B' b = some (.tup ys) := by
  cases hB : B b with
  | some o =>
    have := m.ex b o hB
    rw [hb] at this
    cases this
    exact ⟨B, Le.refl _ _, m, hB⟩
  | none =>
    have l : Le B ρ (upd B b (.tup ys)) ρ := ⟨Ex.new hB, [], by simp⟩
    refine ⟨_, l, ⟨fun a u e => ?_, m.fr, fun a u e => ?_, m.len, m.nd, fun n ob h => ?_, m.nt⟩, upd_same⟩
    · by_cases q : a = b
      · subst q
        rw [upd_same] at e
        cases e
        exact hb
      · rw [upd_ne q] at e
        exact m.ex a u e
    · have na : a ≠ b := fun z => by
        subst z
        have := m.fr a u e
        rw [hb] at this
        cases this
        exact m.nt a ys e
      rw [upd_ne na]
      exact m.dj a u e
    · obtain ⟨a, ha, hq, r⟩ := m.ob n ob h
      refine ⟨a, ha, fun z => ?_, r.mono l fun w q => q⟩
      have na : a ≠ b := fun e => by
        subst e
        exact z (r.notup hb)
      rw [upd_ne na]
      exact hq z
/-- freeze it -/
def frz (M : Mem) : D → Option (D × Mem)
  | .ptr n => match M[n]? with
    | some (.lst ds) => some (.lst ds, M.set n .gone)
    | some (.dK k) => some (.dct k, M.set n .gone)
    | some (.dT k) => some (.dcT k, M.set n .gone)
    | some (.ins x fs) => some (.ins x fs, M.set n .gone)
    | _ => none
  | d => some (d, M)
/-- what holds behind some locking -/
inductive Lks (R : Hp → Prop) : Hp → Prop
  | here {H : Hp} : R H → Lks R H
  | lock {H : Hp} {d : Addr} {u : HO} : H d = some u → Mut (some u) → (∀ od, Lks R (upd H d (.frz od u))) → Lks R H
theorem Lks.bind {R R' : Hp → Prop} {H : Hp} (h : Lks R H) (k : ∀ H', R H' → Lks R' H') : Lks R' H := by
  induction h with
  | here r => exact k _ r
  | lock e m _ ih => exact .lock e m ih
theorem pe_locks {X : Cx} {e : Expr} {t : TE} (h : PE X e t) : PE X e (fun σ H Q => t σ H fun v H1 => Lks (Q v) H1) := by
  refine ⟨fun pins s σ H Q I hw => ?_⟩
  refine thn (h.run pins s σ H _ I hw) fun v s1 ⟨x, H1, I1, r, q⟩ => ?_
  induction q with
  | here q => exact ⟨x, _, I1, r, q⟩
  | lock e m _ ih =>
    obtain ⟨od, I2⟩ := I1.lock e m
    exact ih od I2
theorem upd_upd {H : Hp} {p : Addr} {o o' : HO} : upd (upd H p o) p o' = upd H p o' := by
  funext q
  by_cases h : q = p
  · subst h; rw [upd_same, upd_same]
  · rw [upd_ne h, upd_ne h, upd_ne h]
/-- a dict that changes no more is locked -/
theorem MR.lock {K : PySem.W.Frag} {F B H : Hp} {ρ : List Addr} {M : Mem} (m : MR K F B ρ M H) {n : Nat} {a : Addr} {o o' : HO} {ob : Ob} (ha : ρ[n]? = some a) (hm : M[n]? = some ob) (hg : ob ≠ .gone) (hH : H a = some o) : MR K F (upd B a o') ρ (M.set n .gone) (upd H a o') ∧ Le B ρ (upd B a o') ρ := by
  have m1 : MR K F B ρ (M.set n .gone) (upd H a o') := m.put ha hm hg ⟨o', upd_same⟩
  have hB : B a = none := by
    obtain ⟨b, hb, q, _⟩ := m.ob n ob hm
    rw [ha] at hb
    cases hb
    exact q hg
  have l : Le B ρ (upd B a o') ρ := ⟨Ex.new hB, [], by simp⟩
  refine ⟨⟨fun b u e => ?_, m1.fr, fun b u e => ?_, m1.len, m1.nd, fun k ob' h => ?_, m1.nt⟩, l⟩
  · by_cases q : b = a
    · subst q
      rw [upd_same] at e ⊢
      exact e
    · rw [upd_ne q] at e
      exact m1.ex b u e
  · have nb : b ≠ a := fun z => (m.dj b u e).2 (z ▸ List.mem_of_getElem? ha)
    rw [upd_ne nb]
    exact m1.dj b u e
  · by_cases hk : k = n
    · subst hk
      have hl := (List.getElem?_eq_some_iff.mp hm).1
      rw [List.getElem?_set_self hl] at h
      cases h
      exact ⟨a, ha, fun z => absurd rfl z, o', upd_same⟩
    · obtain ⟨b, hb, hq, q⟩ := m1.ob k ob' h
      have nb : b ≠ a := fun e => by
        subst e
        exact hk (MR.put.nodup_ix' m.nd hb ha)
      exact ⟨b, hb, fun z => by rw [upd_ne nb]; exact hq z, q.mono l fun w z => z⟩
theorem frz_snd {K : PySem.W.Frag} {F B H : Hp} {ρ : List Addr} {M M' : Mem} (m : MR K F B ρ M H) {d d' : D} {v : V} (r : Rp K B ρ d v) (h : frz M d = some (d', M')) :
    Lks (fun H' => ∃ B', Le B ρ B' ρ ∧ MR K F B' ρ M' H' ∧ Rp K B' ρ d' v ∧ ∀ b C dx gs, H b = some (.ins C dx gs) → H' b = some (.ins C dx gs)) H := by
  have same : some (d, M) = some (d', M') → Lks (fun H' => ∃ B', Le B ρ B' ρ ∧ MR K F B' ρ M' H' ∧ Rp K B' ρ d' v ∧ ∀ b C dx gs, H b = some (.ins C dx gs) → H' b = some (.ins C dx gs)) H := fun e => by
    cases e
    exact .here ⟨B, Le.refl _ _, m, r, fun _ _ _ _ h => h⟩
  cases r with
  | @ptr n a ha =>
    unfold frz at h
    dsimp only at h
    split at h
    · next ds hm =>
      cases h
      obtain ⟨b, hb, _, vs, e, q⟩ := m.ob n _ hm
      rw [ha] at hb; cases hb
      obtain ⟨m', l⟩ := m.freeze ha hm (by intro z; cases z) e
      exact .here ⟨_, l, m', .lst upd_same (q.mono l), fun _ _ _ _ h => h⟩
    · next ds hm =>
      cases h
      obtain ⟨b, hb, _, vs, e, q⟩ := m.ob n _ hm
      rw [ha] at hb; cases hb
      refine .lock e trivial fun od => .here ?_
      obtain ⟨m', l⟩ := m.lock (o' := .frz od (.dK vs)) ha hm (by intro z; cases z) e
      exact ⟨_, l, m', .dct upd_same (q.mono l), fun b C dx gs hb => by rw [upd_ne (ne_of hb e (by intro z; cases z))]; exact hb⟩
    · next ds hm =>
      cases h
      obtain ⟨b, hb, _, vs, e, q⟩ := m.ob n _ hm
      rw [ha] at hb; cases hb
      refine .lock e trivial fun od => .here ?_
      obtain ⟨m', l⟩ := m.lock (o' := .frz od (.dT vs)) ha hm (by intro z; cases z) e
      exact ⟨_, l, m', .dcT upd_same ((rpt_of q).mono l), fun b C dx gs hb => by rw [upd_ne (ne_of hb e (by intro z; cases z))]; exact hb⟩
    · next x fs hm =>
      cases h
      obtain ⟨b, hb, _, C, dx, gs, hc, e, q⟩ := m.ob n _ hm
      rw [ha] at hb; cases hb
      obtain ⟨m', l⟩ := m.freeze ha hm (by intro z; cases z) e
      exact .here ⟨_, l, m', .ins hc upd_same ((rpf_of q).mono l), fun _ _ _ _ h => h⟩
    · cases h
  | _ => exact same h

/-! ### the slots -/
structure ER (K : PySem.W.Frag) (B : Hp) (ρ : List Addr) (η : Dv) (σ : L2.St) : Prop where
  len : η.length = σ.length
  at' : ∀ (i : Nat) (d : D), η[i]? = some (some d) → ∃ v, σ[i]? = some (some v) ∧ Rp K B ρ d v
section
variable {K : PySem.W.Frag} {B B' : Hp} {ρ ρ' : List Addr} {η : Dv} {σ : L2.St}
theorem ER.mono (l : Le B ρ B' ρ') (e : ER K B ρ η σ) : ER K B' ρ' η σ := ⟨e.len, fun i d h => let ⟨v, h1, h2⟩ := e.at' i d h; ⟨v, h1, h2.mono l⟩⟩
theorem ER.set (e : ER K B ρ η σ) (i : Nat) {d : D} {v : V} (r : Rp K B ρ d v) : ER K B ρ (η.set i (some d)) (σ.set i (some v)) := by
  refine ⟨by simp [e.len], fun j c h => ?_⟩
  by_cases hj : j = i
  · subst hj
    have hl : j < η.length := by
      have := (List.getElem?_eq_some_iff.mp h).1
      simpa using this
    rw [List.getElem?_set_self hl] at h
    cases h
    exact ⟨v, List.getElem?_set_self (by rw [← e.len]; exact hl), r⟩
  · rw [List.getElem?_set_ne (Ne.symm hj)] at h
    obtain ⟨u, h1, h2⟩ := e.at' j c h
    exact ⟨u, by rw [List.getElem?_set_ne (Ne.symm hj)]; exact h1, h2⟩
/-- slots forgotten -/
def wipeD (η : Dv) : List Nat → Dv
  | [] => η
  | v :: vs => (wipeD η vs).set v none
theorem ER.wipe (e : ER K B ρ η σ) : ∀ vs : List Nat, ER K B ρ (wipeD η vs) (L2.wipe σ vs)
  | [] => e
  | v :: vs => by
    have ih := e.wipe vs
    refine ⟨by show ((wipeD η vs).set v none).length = ((L2.wipe σ vs).set v none).length; simp [ih.len], fun j c h => ?_⟩
    have h : ((wipeD η vs).set v none)[j]? = some (some c) := h
    show ∃ u, ((L2.wipe σ vs).set v none)[j]? = some (some u) ∧ _
    by_cases hj : j = v
    · subst hj
      have hl : j < (wipeD η vs).length := by
        have := (List.getElem?_eq_some_iff.mp h).1
        simpa using this
      rw [List.getElem?_set_self hl] at h
      cases h
    · rw [List.getElem?_set_ne (Ne.symm hj)] at h
      obtain ⟨u, h1, h2⟩ := ih.at' j c h
      exact ⟨u, by rw [List.getElem?_set_ne (Ne.symm hj)]; exact h1, h2⟩
end
/-- only the slots ts may have changed -/
def Off (ts : List Nat) (σ σ' : L2.St) : Prop := σ'.length = σ.length ∧ ∀ j, j ∉ ts → σ'[j]? = σ[j]?
theorem Off.refl (ts : List Nat) (σ : L2.St) : Off ts σ σ := ⟨rfl, fun _ _ => rfl⟩
theorem Off.trans {ts us : List Nat} {σ σ1 σ2 : L2.St} (a : Off ts σ σ1) (b : Off us σ1 σ2) : Off (ts ++ us) σ σ2 :=
  ⟨b.1.trans a.1, fun j h => (b.2 j fun z => h (List.mem_append_right _ z)).trans (a.2 j fun z => h (List.mem_append_left _ z))⟩
theorem Off.set (i : Nat) (v : Option V) (σ : L2.St) : Off [i] σ (σ.set i v) := ⟨by simp, fun j h => List.getElem?_set_ne (fun e => h (by simp [e]))⟩
theorem wipe_off : ∀ {ts vs : List Nat} {σ σ' : L2.St}, Off ts σ σ' → (∀ t ∈ ts, t ∈ vs) → L2.wipe σ' vs = L2.wipe σ vs := by
  intro ts vs σ σ' h hs
  apply List.ext_getElem?
  intro j
  by_cases hj : j ∈ vs
  · have gen : ∀ (τ : L2.St) (ws : List Nat), j ∈ ws → (L2.wipe τ ws)[j]? = if j < τ.length then some none else none := by
      intro τ ws
      induction ws with
      | nil => intro z; cases z
      | cons w ws ih =>
        intro z
        show ((L2.wipe τ ws).set w none)[j]? = _
        by_cases e : w = j
        · subst e
          by_cases hl : w < τ.length
          · rw [if_pos hl, List.getElem?_set_self (by rw [L2.wipe_length]; exact hl)]
          · rw [if_neg hl, List.getElem?_eq_none]
            rw [List.length_set, L2.wipe_length]; omega
        · rw [List.getElem?_set_ne e]
          exact ih (by rcases List.mem_cons.mp z with q | q; exact absurd q.symm e; exact q)
    rw [gen _ _ hj, gen _ _ hj, h.1]
  · rw [L2.wipe_out hj, L2.wipe_out hj]
    exact h.2 j fun z => hj (hs j z)

/-! ### what is wanted of what comes -/
/-- an error as it stands: its class, its own dict -/
def XR (K : PySem.W.Frag) (mg : Str → Option Value) (B : Hp) (ρ : List Addr) (H : Hp) (e : Exc) (c : Value) (dx : Option Addr) : Prop :=
  mg e.cls = some c ∧ ∃ (d : Addr) (gs : List (Str × V)), dx = some d ∧ H d = some (.xd gs) ∧ Paired (fun (p : Str × D) (q : Str × V) => p.1 = q.1 ∧ Rp K B ρ p.2 q.2) e.fs gs
def Wp {α : Type} (K : PySem.W.Frag) (mg : Str → Option Value) (F B : Hp) (ρ : List Addr) (W : XK) (P : α → Hp → List Addr → Hp → Prop) : R α → Prop
  | .ok a M' => ∀ B' ρ' H', Le B ρ B' ρ' → MR K F B' ρ' M' H' → P a B' ρ' H'
  | .ex e M' => ∀ c dx B' ρ' H', Le B ρ B' ρ' → MR K F B' ρ' M' H' → XR K mg B' ρ' H' e c dx → W c dx H'
  | .no => False
section
variable {α β : Type} {K : PySem.W.Frag} {mg : Str → Option Value} {F B B' : Hp} {ρ ρ' : List Addr} {W U : XK} {P : α → Hp → List Addr → Hp → Prop} {P' : β → Hp → List Addr → Hp → Prop}
theorem Wp.mono {r : R α} (l : Le B ρ B' ρ') (h : Wp K mg F B ρ W P r) : Wp K mg F B' ρ' W P r := by
  cases r with
  | ok a M => exact fun B2 ρ2 H2 l2 m => h B2 ρ2 H2 (l.trans l2) m
  | ex e M => exact fun c dx B2 ρ2 H2 l2 m x => h c dx B2 ρ2 H2 (l.trans l2) m x
  | no => exact h
theorem Wp.bind {r : R β} {k : β → Mem → R α} (h : Wp K mg F B ρ W P (r.bind k)) (hk : ∀ b M' B' ρ' H', Le B ρ B' ρ' → MR K F B' ρ' M' H' → Wp K mg F B' ρ' W P (k b M') → P' b B' ρ' H') (hU : ∀ c d H, W c d H → U c d H := by first | exact fun _ _ _ h => h | exact fun _ _ _ h => h _ | exact fun _ _ _ h _ => h) : Wp K mg F B ρ U P' r := by
  cases r with
  | ok a M => exact fun B2 ρ2 H2 l2 m => hk a M B2 ρ2 H2 l2 m (Wp.mono l2 h)
  | ex e M => exact fun c dx B2 ρ2 H2 l2 m x => hU _ _ _ (h c dx B2 ρ2 H2 l2 m x)
  | no => exact h
theorem Wp.imp {P2 : α → Hp → List Addr → Hp → Prop} {r : R α} (h : Wp K mg F B ρ W P r) (hp : ∀ a B' ρ' H', Le B ρ B' ρ' → P a B' ρ' H' → P2 a B' ρ' H') : Wp K mg F B ρ W P2 r := by
  cases r with
  | ok a M => exact fun B2 ρ2 H2 l2 m => hp a B2 ρ2 H2 l2 (h B2 ρ2 H2 l2 m)
  | ex e M => exact h
  | no => exact h
theorem Wp.of {o : Option α} {M : Mem} (h : Wp K mg F B ρ W P (R.of o M)) : ∃ a, o = some a ∧ Wp K mg F B ρ W P (.ok a M) := by
  cases o with
  | none => exact h.elim
  | some a => exact ⟨a, rfl, h⟩
theorem Wp.ret {a : α} {M : Mem} {H : Hp} (h : Wp K mg F B ρ W P (.ok a M)) (m : MR K F B ρ M H) : P a B ρ H := h B ρ H (Le.refl _ _) m
end

/-- a wish with the slots, at these; at any -/
abbrev wAt (W : WX) (σ : L2.St) : XK := fun c d H => W c d σ H
abbrev wAll (W : WX) : XK := fun c d H => ∀ σ, W c d σ H
abbrev XE := Dv → Mem → R D
abbrev XT := Dv → Mem → R Bool
abbrev XA := Dv → Mem → R (List D)
/-- how a statement ends -/
inductive Fl where
  | nx (η : Dv) | rt (d : D) | bk (η : Dv) | ct (η : Dv)
abbrev XS := Dv → Mem → R Fl
abbrev XG := D → Dv → Mem → R Dv
abbrev XI := Dv → Mem → R (List D)

section
variable (K : PySem.W.Frag) (mg : Str → Option Value) (W : WX)
def tE (f : XE) : TE := fun σ H Q => ∃ η F B ρ M, ER K B ρ η σ ∧ MR K F B ρ M H ∧ Wp K mg F B ρ (wAt W σ) (fun d B' ρ' H' => ∀ v, Rp K B' ρ' d v → Q v H') (f η M)
def tT (f : XT) : TT := fun σ H Q => ∃ η F B ρ M, ER K B ρ η σ ∧ MR K F B ρ M H ∧ Wp K mg F B ρ (wAt W σ) (fun b _ _ H' => Q b H') (f η M)
def tA (f : XA) : TA := fun σ H Q => ∃ η F B ρ M, ER K B ρ η σ ∧ MR K F B ρ M H ∧ Wp K mg F B ρ (wAt W σ) (fun ds B' ρ' H' => ∀ vs, Rps K B' ρ' ds vs → Q vs H') (f η M)
def FlP (E : Ends) : Fl → Hp → List Addr → Hp → Prop
  | .nx η, B, ρ, H => ∀ σ, ER K B ρ η σ → E.nx σ H
  | .bk η, B, ρ, H => ∀ σ, ER K B ρ η σ → E.bk σ H
  | .ct η, B, ρ, H => ∀ σ, ER K B ρ η σ → E.ct σ H
  | .rt d, B, ρ, H => ∀ v, Rp K B ρ d v → E.rt v H
def tS (f : XS) : TS := fun E σ H => ∃ η F B ρ M, ER K B ρ η σ ∧ MR K F B ρ M H ∧ Wp K mg F B ρ (wAll W) (FlP K E) (f η M)
def tG (ts : List Nat) (g : XG) : TG := fun v σ H Q => ∃ d η F B ρ M, Rp K B ρ d v ∧ ER K B ρ η σ ∧ MR K F B ρ M H ∧ Wp K mg F B ρ (wAll W) (fun η' B' ρ' H' => ∀ σ', ER K B' ρ' η' σ' → Off ts σ σ' → Q σ' H') (g d η M)
def tGs (ts : List Nat) (g : List D → Dv → Mem → R Dv) : TGs := fun vs σ H Q => ∃ ds η F B ρ M, Rps K B ρ ds vs ∧ ER K B ρ η σ ∧ MR K F B ρ M H ∧ Wp K mg F B ρ (wAll W) (fun η' B' ρ' H' => ∀ σ', ER K B' ρ' η' σ' → Off ts σ σ' → Q σ' H') (g ds η M)
/-- a walk gives just these, as long as what is known stays -/
structure WalkD (J : It) (B : Hp) (ρ : List Addr) (ds : List D) : Prop where
  w : ∃ (G : Hp → Prop) (Y : Nat → Hp → V → Hp → Prop), Walk J ds.length G Y ∧ (∀ H, Ex B H → G H) ∧
    ∀ (i : Nat) (d : D), ds[i]? = some d → ∀ F B1 ρ1 M H x H2, Le B ρ B1 ρ1 → MR K F B1 ρ1 M H → Y i H x H2 → ∃ B2, Le B1 ρ1 B2 ρ1 ∧ MR K F B2 ρ1 M H2 ∧ Rp K B2 ρ1 d x ∧ Ex H H2
def tI (f : XI) : TI := fun σ H Z => ∃ η F B ρ M, ER K B ρ η σ ∧ MR K F B ρ M H ∧ Wp K mg F B ρ (wAt W σ) (fun ds B' ρ' H' => ∀ J, WalkD K J B' ρ' ds → Z J H') (f η M)
end
section
variable (X : Cx) (W : WX)
/-- THE JUDGEMENTS: a text of the program does what the plain function says -/
def DE (e : Expr) (f : XE) : Prop := PE X e (tE X.K X.mg W f)
def DT (e : Expr) (f : XT) : Prop := PT X e (tT X.K X.mg W f)
def DW (e : Expr) (f : XT) : Prop := PW X e (tT X.K X.mg W f)
def DA (es : List Expr) (f : XA) : Prop := PA X es (tA X.K X.mg W f)
def DS (st : Stmt) (f : XS) : Prop := PS X st (tS X.K X.mg W f)
def DSs (sts : List Stmt) (f : XS) : Prop := PSs X sts (tS X.K X.mg W f)
def DG (tg : Expr) (ts : List Nat) (g : XG) : Prop := PG X tg (tG X.K X.mg W ts g)
def DGs (tgs : List Expr) (ts : List Nat) (g : List D → Dv → Mem → R Dv) : Prop := PGs X tgs (tGs X.K X.mg W ts g)
def DI (tg iter : Expr) (f : XI) : Prop := PI X tg iter (tI X.K X.mg W f)
def DTs (ifs : List Expr) (f : XT) : Prop := PTs X ifs (tT X.K X.mg W f)
end
section
variable {X : Cx}
theorem PE.imp {e : Expr} {t t' : TE} (h : PE X e t) (i : ∀ σ H Q, t' σ H Q → t σ H Q) : PE X e t' := ⟨fun pins s σ H Q I q => h.run pins s σ H Q I (i σ H Q q)⟩
theorem PT.imp {e : Expr} {t t' : TT} (h : PT X e t) (i : ∀ σ H Q, t' σ H Q → t σ H Q) : PT X e t' := ⟨fun pins s σ H Q I q => h.run pins s σ H Q I (i σ H Q q)⟩
theorem PW.imp {e : Expr} {t t' : TT} (h : PW X e t) (i : ∀ σ H Q, t' σ H Q → t σ H Q) : PW X e t' := ⟨fun wh pins s σ H Q I q => h.run wh pins s σ H Q I (i σ H Q q)⟩
theorem PA.imp {es : List Expr} {t t' : TA} (h : PA X es t) (i : ∀ σ H Q, t' σ H Q → t σ H Q) : PA X es t' := ⟨fun pos pins s σ H Q I q => h.run pos pins s σ H Q I (i σ H Q q)⟩
theorem PS.imp {st : Stmt} {t t' : TS} (h : PS X st t) (i : ∀ E σ H, t' E σ H → t E σ H) : PS X st t' := ⟨fun pins s σ H E I q => h.run pins s σ H E I (i E σ H q)⟩
theorem PSs.imp {st : List Stmt} {t t' : TS} (h : PSs X st t) (i : ∀ E σ H, t' E σ H → t E σ H) : PSs X st t' := ⟨fun pins s σ H E I q => h.run pins s σ H E I (i E σ H q)⟩
theorem PG.imp {tg : Expr} {t t' : TG} (h : PG X tg t) (i : ∀ v σ H Q, t' v σ H Q → t v σ H Q) : PG X tg t' := ⟨fun pins s σ H v u Q I r q => h.run pins s σ H v u Q I r (i v σ H Q q)⟩
theorem PGs.imp {tg : List Expr} {t t' : TGs} (h : PGs X tg t) (i : ∀ v σ H Q, t' v σ H Q → t v σ H Q) : PGs X tg t' := ⟨fun pins s σ H v u Q I r q => h.run pins s σ H v u Q I r (i v σ H Q q)⟩
theorem PI.imp {tg it : Expr} {t t' : TI} (h : PI X tg it t) (i : ∀ σ H Q, t' σ H Q → t σ H Q) : PI X tg it t' := ⟨fun pins s σ H Q I q => h.run pins s σ H Q I (i σ H Q q)⟩
theorem PTs.imp {e : List Expr} {t t' : TT} (h : PTs X e t) (i : ∀ σ H Q, t' σ H Q → t σ H Q) : PTs X e t' := ⟨fun pins s σ H Q I q => h.run pins s σ H Q I (i σ H Q q)⟩
end
end Dn

namespace Dn
open PySem L2 Evl
section
variable {X : Cx} {W : WX}
/-! ### names, constants -/
def xVar (i : Nat) : XE := fun η M => match η[i]? with
  | some (some d) => .ok d M
  | _ => .no
def xC (d : D) : XE := fun _ M => .ok d M
theorem sE {e : Expr} {t : TE} {f : XE} (h : PE X e t) (i : ∀ σ H Q η F B ρ M, ER X.K B ρ η σ → MR X.K F B ρ M H → Wp X.K X.mg F B ρ (wAt W σ) (fun d B' ρ' H' => ∀ v, Rp X.K B' ρ' d v → Q v H') (f η M) → t σ H Q) : DE X W e f :=
  PE.imp h fun σ H Q ⟨η, F, B, ρ, M, e, m, w⟩ => i σ H Q η F B ρ M e m w
theorem sT {e : Expr} {t : TT} {f : XT} (h : PT X e t) (i : ∀ σ H Q η F B ρ M, ER X.K B ρ η σ → MR X.K F B ρ M H → Wp X.K X.mg F B ρ (wAt W σ) (fun b _ _ H' => Q b H') (f η M) → t σ H Q) : DT X W e f :=
  PT.imp h fun σ H Q ⟨η, F, B, ρ, M, e, m, w⟩ => i σ H Q η F B ρ M e m w
theorem de_var {i : Nat} {x : Str} {pos : Pos} (hN : X.N[i]? = some x := by rfl) (hv : Vis X.env.scope x := by first | exact Or.inl rfl | exact Or.inr (Or.inl rfl) | exact Or.inr (Or.inr rfl)) (hd : (x == ("__debug__" : Str)) = false := by decide)
    (hcd : (x == ("__classdict__" : Str)) = false := by decide) : DE X W (.Name x pos) (xVar i) := sE (pe_var hN hv hd hcd) fun σ H Q η F B ρ M e m w => by
  unfold xVar at w
  split at w
  · next d h =>
    obtain ⟨v, h1, h2⟩ := e.at' i d h
    exact ⟨v, h1, w.ret m v h2⟩
  · exact w.elim
theorem de_int {i : Int} {j pos} : DE X W (.Constant (.int i) j pos) (xC (.int i)) := sE pe_int fun σ H Q η F B ρ M e m w => w.ret m _ (.int i)
theorem de_str {x : Str} {j pos} : DE X W (.Constant (.str x) j pos) (xC (.str x)) := sE pe_str fun σ H Q η F B ρ M e m w => w.ret m _ (.str x)
theorem de_bl {b : Bool} {j pos} : DE X W (.Constant (.bool b) j pos) (xC (.bl b)) := sE pe_bl fun σ H Q η F B ρ M e m w => w.ret m _ (.bl b)
theorem de_non {j pos} : DE X W (.Constant .none j pos) (xC .non) := sE pe_non fun σ H Q η F B ρ M e m w => w.ret m _ .non
/-- flat data of a value -/
def dOf : V → D
  | .non => .non
  | .bl b => .bl b
  | .int i => .int i
  | .str s => .str s
  | v => .raw v
theorem rp_of (K : PySem.W.Frag) (B : Hp) (ρ : List Addr) (v : V) : Rp K B ρ (dOf v) v := by
  cases v with
  | non => exact .non
  | bl b => exact .bl b
  | int i => exact .int i
  | str s => exact .str s
  | byt b => exact .raw _
  | flt b => exact .raw _
  | ref a => exact .raw _
  | ty n => exact .raw _
theorem de_glob {x : Str} {v : V} {u : Value} {pos : Pos} (hg : Gl X x) (hm : X.mg x = some u) (r : RelV v u) (hd : (x == ("__debug__" : Str)) = false := by decide) : DE X W (.Name x pos) (xC (dOf v)) :=
  sE (pe_glob hg hm r hd) fun σ H Q η F B ρ M e m w => w.ret m _ (rp_of _ _ _ v)
theorem de_bltn {x : Str} {v : V} {u : Value} {pos : Pos} (hg : Gl X x) (hm : X.mg x = none) (hv : bootBuiltins x = some u) (r : RelV v u) (hn : x ≠ "__name__" := by decide) (hd : (x == ("__debug__" : Str)) = false := by decide) : DE X W (.Name x pos) (xC (dOf v)) :=
  sE (pe_bltn hg hm hv r hn hd) fun σ H Q η F B ρ M e m w => w.ret m _ (rp_of _ _ _ v)

/-! ### operators -/
/-- an operator on data -/
abbrev Op2 := Mem → D → D → Option D
/-- nothing but new things that stay -/
abbrev Done (K : PySem.W.Frag) (F B : Hp) (ρ : List Addr) (M : Mem) (d : D) (Q : VK) : Prop := ∀ v B' H', Le B ρ B' ρ → MR K F B' ρ M H' → Rp K B' ρ d v → Q v H'
def OSnd (K : PySem.W.Frag) (r : R2) (h : Op2) : Prop := ∀ F B ρ M H x y dx dy dz (Q : VK), MR K F B ρ M H → Rp K B ρ dx x → Rp K B ρ dy y → h M dx dy = some dz → Done K F B ρ M dz Q → r x y H Q
def xOp (h : Op2) (f g : XE) : XE := fun η M => (f η M).bind fun x M1 => (g η M1).bind fun y M2 => R.of (h M2 x y) M2
theorem done_of {U : XK} {K : PySem.W.Frag} {mg : Str → Option Value} {F B : Hp} {ρ : List Addr} {M : Mem} {d : D} {Q : VK} (h : Wp K mg F B ρ U (fun d B' ρ' H' => ∀ v, Rp K B' ρ' d v → Q v H') (.ok d M)) : Done K F B ρ M d Q :=
  fun v B' H' l m r => h B' ρ H' l m v r
theorem op_snd {r : R2} {h : Op2} {f g : XE} {ta tb : TE} (os : OSnd X.K r h) (ha : ∀ σ H Q, tE X.K X.mg W f σ H Q → ta σ H Q) (hb : ∀ σ H Q, tE X.K X.mg W g σ H Q → tb σ H Q) (σ : L2.St) (H : Hp) (Q : VK) (q : tE X.K X.mg W (xOp h f g) σ H Q) : tOp r ta tb σ H Q := by
  obtain ⟨η, F, B, ρ, M, e, m, w⟩ := q
  refine ha _ _ _ ⟨η, F, B, ρ, M, e, m, w.bind fun dx M1 B1 ρ1 H1 l1 m1 w1 x rx => ?_⟩
  refine hb _ _ _ ⟨η, F, B1, ρ1, M1, e.mono l1, m1, w1.bind fun dy M2 B2 ρ2 H2 l2 m2 w2 y ry => ?_⟩
  obtain ⟨dz, hz, w3⟩ := w2.of
  exact os F B2 ρ2 M2 H2 x y dx dy dz Q m2 (rx.mono l2) ry hz (done_of w3)
def OpD (X : Cx) (f : Value → Value → Sem Value) (h : Op2) : Prop := ∃ r, OpR X f r ∧ OSnd X.K r h
variable {a b c : Expr} {f g k : XE} {pos : Pos}
theorem de_op {op : Operator} {h : Op2} (o : OpD X (binaryOp op) h) (ha : DE X W a f) (hb : DE X W b g) : DE X W (.BinOp a op b pos) (xOp h f g) := by
  obtain ⟨r, ho, os⟩ := o
  exact PE.imp (pe_op ho ha hb) (op_snd os (fun _ _ _ q => q) fun _ _ _ q => q)
theorem de_cmp {op : CmpOp} {h : Op2} (o : OpD X (compareOp op) h) (ha : DE X W a f) (hb : DE X W b g) (hm : behindInMarks op b = false) : DE X W (.Compare a [op] [b] pos) (xOp h f g) := by
  obtain ⟨r, ho, os⟩ := o
  exact PE.imp (pe_cmpR ho ha hb hm) (op_snd os (fun _ _ _ q => q) fun _ _ _ q => q)
/-- the data is a truth -/
def asB : D → Option Bool
  | .bl b => some b
  | _ => none
theorem asB_some {d : D} {b : Bool} (h : asB d = some b) : d = .bl b := by
  cases d <;> simp_all [asB]
def xTst (f : XE) : XT := fun η M => (f η M).bind fun d M1 => R.of (asB d) M1
theorem tst_snd {f : XE} {te : TE} (ha : ∀ σ H Q, tE X.K X.mg W f σ H Q → te σ H Q) (σ : L2.St) (H : Hp) (Q : Bool → Hp → Prop) (q : tT X.K X.mg W (xTst f) σ H Q) : te σ H fun x H' => ∃ k, x = .bl k ∧ Q k H' := by
  obtain ⟨η, F, B, ρ, M, e, m, w⟩ := q
  refine ha _ _ _ ⟨η, F, B, ρ, M, e, m, w.bind fun dx M1 B1 ρ1 H1 l1 m1 w1 x rx => ?_⟩
  obtain ⟨b, hb, w2⟩ := w1.of
  rw [asB_some hb] at rx
  cases rx
  exact ⟨b, rfl, w2.ret m1⟩
theorem dt_cmp {op : CmpOp} {h : Op2} (o : OpD X (compareOp op) h) (ha : DE X W a f) (hb : DE X W b g) (hm : behindInMarks op b = false) : DT X W (.Compare a [op] [b] pos) (xTst (xOp h f g)) := by
  obtain ⟨r, ho, os⟩ := o
  exact PT.imp (pt_cmpR ho ha hb hm) fun σ H Q q => tst_snd (op_snd os (fun _ _ _ q => q) fun _ _ _ q => q) σ H Q q
/-- a truth as a test -/
theorem dt_val (ha : DE X W a f) (he : ∀ whole, isTrue a X.env whole = (do let v ← whole; standAt a.pos; holding [v] (truthy v)) := by intro _; rfl) : DT X W a (xTst f) :=
  PT.imp (pt_val ha he) fun σ H Q q => tst_snd (fun _ _ _ q => q) σ H Q q
/-- a chain of two comparisons -/
def xChain (h h' : Op2) (f g k : XE) : XE := fun η M => (f η M).bind fun x M1 => (g η M1).bind fun y M2 => (R.of ((h M2 x y).bind asB) M2).bind fun b M3 =>
  if b = true then (k η M3).bind fun z M4 => R.of (h' M4 y z) M4 else .ok (.bl false) M3
theorem chain_snd {r r' : R2} {h h' : Op2} (os : OSnd X.K r h) (os' : OSnd X.K r' h') (σ : L2.St) (H : Hp) (Q : VK) (q : tE X.K X.mg W (xChain h h' f g k) σ H Q) : tChain r r' (tE X.K X.mg W f) (tE X.K X.mg W g) (tE X.K X.mg W k) σ H Q := by
  obtain ⟨η, F, B, ρ, M, e, m, w⟩ := q
  refine ⟨η, F, B, ρ, M, e, m, w.bind fun dx M1 B1 ρ1 H1 l1 m1 w1 x rx => ?_⟩
  refine ⟨η, F, B1, ρ1, M1, e.mono l1, m1, w1.bind fun dy M2 B2 ρ2 H2 l2 m2 w2 y ry => ?_⟩
  have w2' := w2
  cases hz : (h M2 dx dy) with
  | none => rw [hz] at w2; exact w2.elim
  | some dz =>
    rw [hz] at w2
    cases hb : asB dz with
    | none => simp [hb] at w2; exact w2.elim
    | some t =>
      simp only [Option.bind_some, hb, R.of_some, R.bind_ok] at w2
      have ez := asB_some hb
      subst ez
      refine os F B2 ρ2 M2 H2 x y dx dy (.bl t) _ m2 (rx.mono l2) ry hz fun v B3 H3 l3 m3 r3 => ?_
      cases r3
      refine ⟨t, rfl, ?_⟩
      cases t with
      | true =>
        have w3 : Wp X.K X.mg F B2 ρ2 (wAt W σ) _ ((k η M2).bind fun z M4 => R.of (h' M4 dy z) M4) := w2
        refine ⟨η, F, B3, ρ2, M2, (e.mono (l1.trans l2)).mono l3, m3, (w3.mono l3).bind fun dz M4 B4 ρ4 H4 l4 m4 w4 z rz => ?_⟩
        obtain ⟨dw, hw, w5⟩ := w4.of
        exact os' F B4 ρ4 M4 H4 y z dy dz dw Q m4 (ry.mono (l3.trans l4)) rz hw (done_of w5)
      | false =>
        have w3 : Wp X.K X.mg F B2 ρ2 (wAt W σ) (fun d B' ρ' H' => ∀ v, Rp X.K B' ρ' d v → Q v H') (.ok (.bl false) M2) := w2
        exact w3 B3 ρ2 H3 l3 m3 _ (.bl false)
theorem de_chain {op op' : CmpOp} {h h' : Op2} (o : OpD X (compareOp op) h) (o' : OpD X (compareOp op') h') (ha : DE X W a f) (hb : DE X W b g) (hc : DE X W c k) (h1 : lastMarks [op, op'] [b, c] = false := by with_unfolding_all rfl) : DE X W (.Compare a [op, op'] [b, c] pos) (xChain h h' f g k) := by
  obtain ⟨r, ho, os⟩ := o
  obtain ⟨r', ho', os'⟩ := o'
  exact PE.imp (pe_chain ho ho' ha hb hc h1) (chain_snd os os')
theorem dt_chain {op op' : CmpOp} {h h' : Op2} (o : OpD X (compareOp op) h) (o' : OpD X (compareOp op') h') (ha : DE X W a f) (hb : DE X W b g) (hc : DE X W c k) (h1 : lastMarks [op, op'] [b, c] = false := by with_unfolding_all rfl) : DT X W (.Compare a [op, op'] [b, c] pos) (xTst (xChain h h' f g k)) := by
  obtain ⟨r, ho, os⟩ := o
  obtain ⟨r', ho', os'⟩ := o'
  exact PT.imp (pt_chain ho ho' ha hb hc h1) fun σ H Q q => tst_snd (chain_snd os os') σ H Q q

/-! ### and, or, not, if else -/
variable {p q : XT} {rest : List Expr}
def xAnd (p q : XT) : XT := fun η M => (p η M).bind fun b M1 => if b = true then q η M1 else .ok false M1
def xOr (p q : XT) : XT := fun η M => (p η M).bind fun b M1 => if b = true then .ok true M1 else q η M1
def xNot (p : XT) : XT := fun η M => (p η M).bind fun b M1 => .ok (!b) M1
theorem dw_and1 (ha : DT X W a p) : DW X W (.BoolOp .And [a] pos) p := pw_and1 ha
theorem dw_or1 (ha : DT X W a p) : DW X W (.BoolOp .Or [a] pos) p := pw_or1 ha
theorem dw_and (ha : DT X W a p) (hb : DW X W (.BoolOp .And (b :: rest) pos) q) : DW X W (.BoolOp .And (a :: b :: rest) pos) (xAnd p q) :=
  PW.imp (pw_and ha hb) fun σ H Q z => by
    obtain ⟨η, F, B, ρ, M, e, m, w⟩ := z
    refine ⟨η, F, B, ρ, M, e, m, w.bind fun t M1 B1 ρ1 H1 l1 m1 w1 => ?_⟩
    cases t with
    | true => exact ⟨η, F, B1, ρ1, M1, e.mono l1, m1, w1⟩
    | false => exact Wp.ret (P := fun b _ _ H' => Q b H') w1 m1
theorem dw_or (ha : DT X W a p) (hb : DW X W (.BoolOp .Or (b :: rest) pos) q) : DW X W (.BoolOp .Or (a :: b :: rest) pos) (xOr p q) :=
  PW.imp (pw_or ha hb) fun σ H Q z => by
    obtain ⟨η, F, B, ρ, M, e, m, w⟩ := z
    refine ⟨η, F, B, ρ, M, e, m, w.bind fun t M1 B1 ρ1 H1 l1 m1 w1 => ?_⟩
    cases t with
    | false => exact ⟨η, F, B1, ρ1, M1, e.mono l1, m1, w1⟩
    | true => exact Wp.ret (P := fun b _ _ H' => Q b H') w1 m1
theorem dt_w {e : Expr} (h : DW X W e p) : DT X W e p := PW.pt h
theorem dt_not (ha : DT X W a p) : DT X W (.UnaryOp .Not a pos) (xNot p) :=
  PT.imp (pt_not ha) fun σ H Q z => by
    obtain ⟨η, F, B, ρ, M, e, m, w⟩ := z
    exact ⟨η, F, B, ρ, M, e, m, w.bind fun t M1 B1 ρ1 H1 l1 m1 w1 => Wp.ret (P := fun b _ _ H' => Q b H') w1 m1⟩
/-- as values: truths -/
def xAndV (f g : XE) : XE := fun η M => (f η M).bind fun d M1 => (R.of (asB d) M1).bind fun b M2 => if b = true then g η M2 else .ok (.bl false) M2
def xOrV (f g : XE) : XE := fun η M => (f η M).bind fun d M1 => (R.of (asB d) M1).bind fun b M2 => if b = true then .ok (.bl true) M2 else g η M2
def xNotV (f : XE) : XE := fun η M => (f η M).bind fun d M1 => (R.of (asB d) M1).bind fun b M2 => .ok (.bl (!b)) M2
theorem de_one {op} (h : DE X W a f) : DE X W (.BoolOp op [a] pos) f := pe_one h
theorem de_and (ha : DE X W a f) (hb : DE X W (.BoolOp .And (b :: rest) pos) g) : DE X W (.BoolOp .And (a :: b :: rest) pos) (xAndV f g) :=
  PE.imp (pe_and ha hb) fun σ H Q z => by
    obtain ⟨η, F, B, ρ, M, e, m, w⟩ := z
    refine ⟨η, F, B, ρ, M, e, m, w.bind fun dx M1 B1 ρ1 H1 l1 m1 w1 x rx => ?_⟩
    cases hb : asB dx with
    | none => rw [hb] at w1; exact w1.elim
    | some t =>
      rw [hb] at w1
      rw [asB_some hb] at rx
      cases rx
      refine ⟨t, rfl, ?_⟩
      cases t with
      | true => exact ⟨η, F, B1, ρ1, M1, e.mono l1, m1, w1⟩
      | false => exact Wp.ret (P := fun d B' ρ' H' => ∀ v, Rp X.K B' ρ' d v → Q v H') w1 m1 _ (.bl false)
theorem de_or (ha : DE X W a f) (hb : DE X W (.BoolOp .Or (b :: rest) pos) g) : DE X W (.BoolOp .Or (a :: b :: rest) pos) (xOrV f g) :=
  PE.imp (pe_or ha hb) fun σ H Q z => by
    obtain ⟨η, F, B, ρ, M, e, m, w⟩ := z
    refine ⟨η, F, B, ρ, M, e, m, w.bind fun dx M1 B1 ρ1 H1 l1 m1 w1 x rx => ?_⟩
    cases hb : asB dx with
    | none => rw [hb] at w1; exact w1.elim
    | some t =>
      rw [hb] at w1
      rw [asB_some hb] at rx
      cases rx
      refine ⟨t, rfl, ?_⟩
      cases t with
      | false => exact ⟨η, F, B1, ρ1, M1, e.mono l1, m1, w1⟩
      | true => exact Wp.ret (P := fun d B' ρ' H' => ∀ v, Rp X.K B' ρ' d v → Q v H') w1 m1 _ (.bl true)
theorem de_not (ha : DE X W a f) : DE X W (.UnaryOp .Not a pos) (xNotV f) :=
  PE.imp (pe_not ha) fun σ H Q z => by
    obtain ⟨η, F, B, ρ, M, e, m, w⟩ := z
    refine ⟨η, F, B, ρ, M, e, m, w.bind fun dx M1 B1 ρ1 H1 l1 m1 w1 x rx => ?_⟩
    cases hb : asB dx with
    | none => rw [hb] at w1; exact w1.elim
    | some t =>
      rw [hb] at w1
      rw [asB_some hb] at rx
      cases rx
      exact ⟨t, rfl, Wp.ret (P := fun d B' ρ' H' => ∀ v, Rp X.K B' ρ' d v → Q v H') w1 m1 _ (.bl _)⟩
def xIf (p : XT) (f g : XE) : XE := fun η M => (p η M).bind fun b M1 => if b = true then f η M1 else g η M1
theorem de_if {c : Expr} (hc : DT X W c p) (ha : DE X W a f) (hb : DE X W b g) : DE X W (.IfExp c a b pos) (xIf p f g) :=
  PE.imp (pe_ifExp hc ha hb) fun σ H Q z => by
    obtain ⟨η, F, B, ρ, M, e, m, w⟩ := z
    refine ⟨η, F, B, ρ, M, e, m, w.bind fun t M1 B1 ρ1 H1 l1 m1 w1 => ?_⟩
    cases t with
    | true => exact ⟨η, F, B1, ρ1, M1, e.mono l1, m1, w1⟩
    | false => exact ⟨η, F, B1, ρ1, M1, e.mono l1, m1, w1⟩
end
end Dn

namespace Dn
open PySem L2 Evl
/-! ### what data is read as -/
def asL (M : Mem) : D → Option (List D)
  | .lst ds => some ds
  | .scr ns => some (ns.map D.int)
  | .ptr n => match M[n]? with
    | some (.lst ds) => some ds
    | _ => none
  | _ => none
def asT : D → Option (List D)
  | .tup ds => some ds
  | _ => none
def asS : D → Option Str
  | .str s => some s
  | _ => none
def asI : D → Option Int
  | .int i => some i
  | _ => none
section
variable {K : PySem.W.Frag} {F B H : Hp} {ρ : List Addr} {M : Mem}
theorem rps_ints : ∀ (ns : List Int), Rps K B ρ (ns.map D.int) (ns.map V.int)
  | [] => .nil
  | n :: ns => .cons (.int n) (rps_ints ns)
theorem MR.list (m : MR K F B ρ M H) {n : Nat} {a : Addr} {ds : List D} (ha : ρ[n]? = some a) (h : M[n]? = some (.lst ds)) : ∃ vs, H a = some (.lst vs) ∧ Rps K B ρ ds vs ∧ B a = none := by
  obtain ⟨b, hb, hB, vs, e, r⟩ := m.ob n _ h
  rw [ha] at hb
  cases hb
  exact ⟨vs, e, r, hB (by intro z; cases z)⟩
theorem asL_snd (m : MR K F B ρ M H) {d : D} {v : V} {ds : List D} (r : Rp K B ρ d v) (h : asL M d = some ds) : ∃ a vs, v = .ref a ∧ SqL K H a vs ∧ Rps K B ρ ds vs := by
  cases r with
  | lst e q => cases h; exact ⟨_, _, rfl, sq_of (m.ex _ _ e), q⟩
  | scr e => cases h; exact ⟨_, _, rfl, ex_l m.ex e, rps_ints _⟩
  | @ptr n a ha =>
    have h' : (match M[n]? with | some (.lst ds) => some ds | _ => none) = some ds := h
    split at h'
    · next ds' hm =>
      cases h'
      obtain ⟨vs, e, q, _⟩ := m.list ha hm
      exact ⟨_, vs, rfl, sq_of e, q⟩
    · cases h'
  | non => cases h
  | bl b => cases h
  | int i => cases h
  | str z => cases h
  | tup e q => cases h
  | dct e q => cases h
  | dcT e q => cases h
  | ins c e q => cases h
  | fn c => cases h
  | raw v => cases h
theorem asT_snd (m : MR K F B ρ M H) {d : D} {v : V} {ds : List D} (r : Rp K B ρ d v) (h : asT d = some ds) : ∃ a vs, v = .ref a ∧ SqT K H a vs ∧ Rps K B ρ ds vs := by
  cases r with
  | tup e q => cases h; exact ⟨_, _, rfl, ex_t m.ex e, q⟩
  | _ => cases h
theorem asS_snd {d : D} {v : V} {s : Str} (r : Rp K B ρ d v) (h : asS d = some s) : v = .str s := by
  cases r with
  | str e => cases h; rfl
  | _ => cases h
theorem asI_snd {d : D} {v : V} {i : Int} (r : Rp K B ρ d v) (h : asI d = some i) : v = .int i := by
  cases r with
  | int e => cases h; rfl
  | _ => cases h
/-- a new thing that stays is told -/
theorem Done.new {d : D} {Q : VK} {o : HO} (m : MR K F B ρ M H) (k : Done K F B ρ M d Q) (r : ∀ p, H p = none → Rp K (upd B p o) ρ d (.ref p)) : ∀ p, H p = none → Q (.ref p) (upd H p o) := fun p hp => by
  obtain ⟨m', l⟩ := m.new (o := o) hp
  exact k _ _ _ l m' (r p hp)
theorem Done.newL {ds : List D} {vs : List V} {Q : VK} (m : MR K F B ρ M H) (r : Rps K B ρ ds vs) (k : Done K F B ρ M (.lst ds) Q) : ∀ p, H p = none → Q (.ref p) (upd H p (.lst vs)) :=
  Done.new m k fun p hp => .lst upd_same (r.mono (m.new hp).2)
theorem Done.newT {ds : List D} {vs : List V} {Q : VK} (m : MR K F B ρ M H) (r : Rps K B ρ ds vs) (k : Done K F B ρ M (.tup ds) Q) : ∀ p, H p = none → Q (.ref p) (upd H p (.tup vs)) :=
  Done.new m k fun p hp => .tup (st_of upd_same) (r.mono (m.new hp).2) (.inr upd_same)
theorem Done.same {d : D} {v : V} {Q : VK} (m : MR K F B ρ M H) (r : Rp K B ρ d v) (k : Done K F B ρ M d Q) : Q v H := k v B H (Le.refl _ _) m r
end

/-! ### operators on data -/
def oOr (h h' : Op2) : Op2 := fun M x y => match h M x y with
  | some z => some z
  | none => h' M x y
section
variable {X : Cx} {fv : Value → Value → Sem Value}
theorem OpD.or {h h' : Op2} (a : OpD X fv h) (b : OpD X fv h') : OpD X fv (oOr h h') := by
  obtain ⟨r, o, s⟩ := a
  obtain ⟨r', o', s'⟩ := b
  refine ⟨_, OpR.or o o', fun F B ρ M H x y dx dy dz Q m rx ry e k => ?_⟩
  unfold oOr at e
  split at e
  · next z hz => cases e; exact .inl (s F B ρ M H x y dx dy _ Q m rx ry hz k)
  · exact .inr (s' F B ρ M H x y dx dy dz Q m rx ry e k)
/-- two ints -/
def oI (C : Int → Int → Prop) [∀ i j, Decidable (C i j)] (g : Int → Int → Int) : Op2 := fun _ x y => (asI x).bind fun i => (asI y).bind fun j => if C i j then some (.int (g i j)) else none
def oI0 (g : Int → Int → Int) : Op2 := fun _ x y => (asI x).bind fun i => (asI y).bind fun j => some (.int (g i j))
def oIB (g : Int → Int → Bool) : Op2 := fun _ x y => (asI x).bind fun i => (asI y).bind fun j => some (.bl (g i j))
theorem od_I {C : Int → Int → Prop} [∀ i j, Decidable (C i j)] {g : Int → Int → Int} (o : OpR X fv (rI C fun i j => .int (g i j))) : OpD X fv (oI C g) := by
  refine ⟨_, o, fun F B ρ M H x y dx dy dz Q m rx ry e k => ?_⟩
  unfold oI at e
  cases h1 : asI dx with
  | none => simp [h1] at e
  | some i =>
    cases h2 : asI dy with
    | none => simp [h1, h2] at e
    | some j =>
      by_cases hc : C i j
      · simp [h1, h2, hc] at e
        subst e
        exact ⟨i, j, asI_snd rx h1, asI_snd ry h2, hc, k.same m (.int _)⟩
      · simp [h1, h2, hc] at e
theorem od_I0 {g : Int → Int → Int} (o : OpR X fv (rI0 fun i j => .int (g i j))) : OpD X fv (oI0 g) := by
  refine ⟨_, o, fun F B ρ M H x y dx dy dz Q m rx ry e k => ?_⟩
  unfold oI0 at e
  cases h1 : asI dx with
  | none => simp [h1] at e
  | some i =>
    cases h2 : asI dy with
    | none => simp [h1, h2] at e
    | some j =>
      simp [h1, h2] at e
      subst e
      exact ⟨i, j, asI_snd rx h1, asI_snd ry h2, k.same m (.int _)⟩
theorem od_IB {g : Int → Int → Bool} (o : OpR X fv (rI0 fun i j => .bl (g i j))) : OpD X fv (oIB g) := by
  refine ⟨_, o, fun F B ρ M H x y dx dy dz Q m rx ry e k => ?_⟩
  unfold oIB at e
  cases h1 : asI dx with
  | none => simp [h1] at e
  | some i =>
    cases h2 : asI dy with
    | none => simp [h1, h2] at e
    | some j =>
      simp [h1, h2] at e
      subst e
      exact ⟨i, j, asI_snd rx h1, asI_snd ry h2, k.same m (.bl _)⟩
instance (i j : Int) : Decidable (CMul i j) := by unfold CMul; infer_instance
instance (i j : Int) : Decidable (CDiv i j) := by unfold CDiv; infer_instance
def CPw (i j : Int) : Prop := 0 ≤ j ∧ j ≤ 1000 ∧ i.natAbs < 2 ^ 10000
instance (i j : Int) : Decidable (CPw i j) := by unfold CPw; infer_instance
theorem bits_of {i : Int} {b : Nat} (h : i.natAbs < 2 ^ b) : Builtin.Int.intBits i ≤ b := by
  unfold Builtin.Int.intBits
  split
  · omega
  · next h0 =>
    have : i.natAbs ≠ 0 := by simpa using h0
    have := (Nat.log2_lt this).mpr h
    omega
theorem op_pw : OpR X (binaryOp .Pow) (rI CPw fun i j => .int (i ^ j.toNat)) := opI fun i j _ _ _ _ _ hc q => by
  refine PyProof.Rows.pow_int hc.1 ?_ q
  have h1 := bits_of hc.2.2
  have h2 := hc.2.1
  have h3 := hc.1
  have h4 : (Builtin.Int.intBits i : Int) ≤ 10000 := by omega
  have h5 : (Builtin.Int.intBits i : Int) * j ≤ 10000 * 1000 := Int.mul_le_mul h4 h2 h3 (by omega)
  omega
def dSub : Op2 := oI0 fun i j => i - j
def dMul : Op2 := oI CMul fun i j => i * j
def dMod : Op2 := oI (fun _ j => 0 < j) fun i j => i % j
def dDiv : Op2 := oI CDiv fun i j => i / j
def dPow : Op2 := oI CPw fun i j => i ^ j.toNat
theorem od_sub : OpD X (binaryOp .Sub) dSub := od_I0 op_sub
theorem od_mul : OpD X (binaryOp .Mult) dMul := od_I op_mul
theorem od_mod : OpD X (binaryOp .Mod) dMod := od_I op_mod
theorem od_div : OpD X (binaryOp .FloorDiv) dDiv := od_I op_fdiv
theorem od_pow : OpD X (binaryOp .Pow) dPow := od_I op_pw
/-- two texts -/
def oS2 (g : Str → Str → Option D) : Op2 := fun _ x y => (asS x).bind fun i => (asS y).bind fun j => g i j
theorem oS2_some {g : Str → Str → Option D} {M : Mem} {x y z : D} (h : oS2 g M x y = some z) : ∃ i j, asS x = some i ∧ asS y = some j ∧ g i j = some z := by
  unfold oS2 at h
  cases h1 : asS x with
  | none => simp [h1] at h
  | some i =>
    cases h2 : asS y with
    | none => simp [h1, h2] at h
    | some j => simp [h1, h2] at h; exact ⟨i, j, rfl, rfl, h⟩
def sAdd : Op2 := oS2 fun i j => if i.length + j.length ≤ sizeLine then some (.str (i ++ j)) else none
theorem od_sadd : OpD X (binaryOp .Add) sAdd := by
  refine ⟨_, op_add_str, fun F B ρ M H x y dx dy dz Q m rx ry e k => ?_⟩
  obtain ⟨i, j, h1, h2, h3⟩ := oS2_some e
  by_cases hc : i.length + j.length ≤ sizeLine
  · simp [hc] at h3
    subst h3
    exact ⟨i, j, asS_snd rx h1, asS_snd ry h2, hc, k.same m (.str _)⟩
  · simp [hc] at h3
/-- two tuples -/
def tAdd' : Op2 := fun _ x y => (asT x).bind fun ds => (asT y).bind fun es => if ds.length + es.length ≤ sizeLine then some (.tup (ds ++ es)) else none
theorem od_tadd : OpD X (binaryOp .Add) tAdd' := by
  refine ⟨_, op_catA, fun F B ρ M H x y dx dy dz Q m rx ry e k => ?_⟩
  unfold tAdd' at e
  cases h1 : asT dx with
  | none => simp [h1] at e
  | some ds =>
    cases h2 : asT dy with
    | none => simp [h1, h2] at e
    | some es =>
      by_cases hc : ds.length + es.length ≤ sizeLine
      · simp [h1, h2, hc] at e
        subst e
        obtain ⟨a, vs, rfl, hs, rs⟩ := asT_snd m rx h1
        obtain ⟨b, us, rfl, ht, rt⟩ := asT_snd m ry h2
        have l1 := rs.len
        have l2 := rt.len
        refine ⟨a, b, vs, us, rfl, rfl, hs, ht, by omega, fun z => ?_, fun _ z => ?_, fun _ _ => k.newT m (rs.app rt)⟩
        · subst z
          cases rs
          have : asT dy = some es := h2
          cases dy <;> simp [asT] at this
          subst this
          exact k.same m ry
        · subst z
          cases rt
          have : asT dx = some ds := h1
          cases dx <;> simp [asT] at this
          subst this
          rw [List.append_nil] at k
          exact k.same m rx
      · simp [h1, h2, hc] at e
/-- two lists (plain ones) -/
def asP (M : Mem) : D → Option (List D)
  | .lst ds => some ds
  | .ptr n => match M[n]? with
    | some (.lst ds) => some ds
    | _ => none
  | _ => none
theorem asP_snd {K : PySem.W.Frag} {F B H : Hp} {ρ : List Addr} {M : Mem} (m : MR K F B ρ M H) {d : D} {v : V} {ds : List D} (r : Rp K B ρ d v) (h : asP M d = some ds) : ∃ a vs, v = .ref a ∧ H a = some (.lst vs) ∧ Rps K B ρ ds vs := by
  cases r with
  | lst e q => cases h; exact ⟨_, _, rfl, m.ex _ _ e, q⟩
  | @ptr n a ha =>
    have h' : (match M[n]? with | some (.lst ds) => some ds | _ => none) = some ds := h
    split at h'
    · next ds' hm =>
      cases h'
      obtain ⟨vs, e, q, _⟩ := m.list ha hm
      exact ⟨_, vs, rfl, e, q⟩
    · cases h'
  | non => cases h
  | bl b => cases h
  | int i => cases h
  | str z => cases h
  | tup e q => cases h
  | dct e q => cases h
  | dcT e q => cases h
  | ins c e q => cases h
  | fn c => cases h
  | scr e => cases h
  | raw v => cases h
def lAdd : Op2 := fun M x y => (asP M x).bind fun ds => (asP M y).bind fun es => if ds.length + es.length ≤ sizeLine then some (.lst (ds ++ es)) else none
theorem od_ladd : OpD X (binaryOp .Add) lAdd := by
  refine ⟨_, op_cat, fun F B ρ M H x y dx dy dz Q m rx ry e k => ?_⟩
  unfold lAdd at e
  cases h1 : asP M dx with
  | none => simp [h1] at e
  | some ds =>
    cases h2 : asP M dy with
    | none => simp [h1, h2] at e
    | some es =>
      by_cases hc : ds.length + es.length ≤ sizeLine
      · simp [h1, h2, hc] at e
        subst e
        obtain ⟨a, vs, rfl, hs, rs⟩ := asP_snd m rx h1
        obtain ⟨b, us, rfl, ht, rt⟩ := asP_snd m ry h2
        have l1 := rs.len
        have l2 := rt.len
        exact ⟨a, b, vs, us, rfl, rfl, hs, ht, by omega, k.newL m (rs.app rt)⟩
      · simp [h1, h2, hc] at e
def dAdd : Op2 := oOr (oI0 fun i j => i + j) (oOr sAdd (oOr tAdd' lAdd))
theorem od_add : OpD X (binaryOp .Add) dAdd := (od_I0 op_add).or (od_sadd.or (od_tadd.or od_ladd))
/-! comparisons -/
def dLt : Op2 := oOr (oIB fun i j => decide (i < j)) (oS2 fun i j => some (.bl (decide (i.cps.toList < j.cps.toList))))
def dLe : Op2 := oIB fun i j => decide (i ≤ j)
def dGt : Op2 := oIB fun i j => decide (j < i)
def dGe : Op2 := oIB fun i j => decide (j ≤ i)
theorem od_lts : OpD X (compareOp .Lt) (oS2 fun i j => some (.bl (decide (i.cps.toList < j.cps.toList)))) := by
  refine ⟨_, op_lt_str, fun F B ρ M H x y dx dy dz Q m rx ry e k => ?_⟩
  obtain ⟨i, j, h1, h2, h3⟩ := oS2_some e
  obtain rfl := Option.some.inj h3
  exact ⟨i, j, asS_snd rx h1, asS_snd ry h2, k.same m (.bl _)⟩
theorem od_lt : OpD X (compareOp .Lt) dLt := (od_IB op_lt).or od_lts
theorem od_le : OpD X (compareOp .LtE) dLe := od_IB op_le
theorem od_gt : OpD X (compareOp .Gt) dGt := od_IB op_gt
theorem od_ge : OpD X (compareOp .GtE) dGe := od_IB op_ge
/-- one sign in a text -/
def dInS : Op2 := oS2 fun i j => match i.cps.toList with
  | [c] => some (.bl (decide (c ∈ j.cps.toList)))
  | _ => none
theorem od_inS : OpD X (compareOp .In) dInS := by
  refine ⟨_, op_in_sign, fun F B ρ M H x y dx dy dz Q m rx ry e k => ?_⟩
  obtain ⟨i, j, h1, h2, h3⟩ := oS2_some e
  split at h3
  · next c hc =>
    obtain rfl := Option.some.inj h3
    have ei : i = ⟨#[c]⟩ := by
      cases i with
      | mk cs =>
        have : cs = #[c] := by
          apply Array.toList_inj.mp
          exact hc
        rw [this]
    subst ei
    exact ⟨c, j, asS_snd rx h1, asS_snd ry h2, k.same m (.bl _)⟩
  · cases h3
/-- is None -/
def isN : D → Option Bool
  | .non => some true
  | .raw _ => none
  | _ => some false
theorem isN_snd {K : PySem.W.Frag} {B : Hp} {ρ : List Addr} {d : D} {v : V} {b : Bool} (r : Rp K B ρ d v) (h : isN d = some b) : decide (v = .non) = b := by
  cases r <;> simp_all [isN]
def dIsN : Op2 := fun _ x y => match y with
  | .non => (isN x).map D.bl
  | _ => none
def dNotN : Op2 := fun _ x y => match y with
  | .non => (isN x).map fun b => D.bl (!b)
  | _ => none
theorem od_isN : OpD X (compareOp .Is) dIsN := by
  refine ⟨_, op_isN, fun F B ρ M H x y dx dy dz Q m rx ry e k => ?_⟩
  unfold dIsN at e
  split at e
  · cases ry
    cases h : isN dx with
    | none => simp [h] at e
    | some b =>
      simp [h] at e
      subst e
      refine ⟨rfl, ?_⟩
      rw [isN_snd rx h]
      exact k.same m (.bl _)
  · cases e
theorem od_notN : OpD X (compareOp .IsNot) dNotN := by
  refine ⟨_, op_notN, fun F B ρ M H x y dx dy dz Q m rx ry e k => ?_⟩
  unfold dNotN at e
  split at e
  · cases ry
    cases h : isN dx with
    | none => simp [h] at e
    | some b =>
      simp [h] at e
      subst e
      refine ⟨rfl, ?_⟩
      rw [isN_snd rx h]
      exact k.same m (.bl _)
  · cases e
end
end Dn

namespace Dn
open PySem L2 Evl
section
variable {X : Cx} {W : WX} {a b c e o : Expr} {es : List Expr} {f g k : XE} {fa : XA} {pos : Pos}
/-! ### arguments, displays -/
def xNil : XA := fun _ M => .ok [] M
def xCons (f : XE) (g : XA) : XA := fun η M => (f η M).bind fun d M1 => (g η M1).bind fun ds M2 => .ok (d :: ds) M2
theorem da_nil : DA X W [] xNil := PA.imp pa_nil fun σ H Q z => by
  obtain ⟨η, F, B, ρ, M, e, m, w⟩ := z
  exact Wp.ret w m [] .nil
theorem da_cons (ha : DE X W e f) (hr : DA X W es fa) (hs : starEach (e :: es) X.env = (false, eval e X.env) :: starEach es X.env := by rfl) : DA X W (e :: es) (xCons f fa) :=
  PA.imp (pa_cons ha hr hs) fun σ H Q z => by
    obtain ⟨η, F, B, ρ, M, er, m, w⟩ := z
    refine ⟨η, F, B, ρ, M, er, m, w.bind fun d M1 B1 ρ1 H1 l1 m1 w1 x rx => ?_⟩
    exact ⟨η, F, B1, ρ1, M1, er.mono l1, m1, w1.bind fun ds M2 B2 ρ2 H2 l2 m2 w2 xs rxs => Wp.ret w2 m2 _ (.cons (rx.mono l2) rxs)⟩
def xTup (g : XA) : XE := fun η M => (g η M).bind fun ds M1 => if ds.length ≤ 100000 then .ok (.tup ds) M1 else .no
def xLst (g : XA) : XE := fun η M => (g η M).bind fun ds M1 => if ds.length ≤ 100000 then .ok (.lst ds) M1 else .no
/-- a new list that may change -/
def xLstM (g : XA) : XE := fun η M => (g η M).bind fun ds M1 => if ds.length ≤ 100000 then .ok (.ptr M1.length) (M1 ++ [.lst ds]) else .no
theorem de_tup {x1} (h : DA X W es fa) : DE X W (.Tuple es x1 pos) (xTup fa) := PE.imp (pe_tup h) fun σ H Q z => by
  obtain ⟨η, F, B, ρ, M, er, m, w⟩ := z
  refine ⟨η, F, B, ρ, M, er, m, w.bind fun ds M1 B1 ρ1 H1 l1 m1 w1 xs rx => ?_⟩
  split at w1
  · next hl => exact ⟨by rw [← rx.len]; exact sz_of hl, (done_of w1).newT m1 rx⟩
  · exact w1.elim
theorem de_lst (h : DA X W es fa) : DE X W (.List es pos) (xLst fa) := PE.imp (pe_lst h) fun σ H Q z => by
  obtain ⟨η, F, B, ρ, M, er, m, w⟩ := z
  refine ⟨η, F, B, ρ, M, er, m, w.bind fun ds M1 B1 ρ1 H1 l1 m1 w1 xs rx => ?_⟩
  split at w1
  · next hl => exact ⟨by rw [← rx.len]; exact sz_of hl, (done_of w1).newL m1 rx⟩
  · exact w1.elim
/-- a list told as one that may change -/
theorem putM {U : XK} {K : PySem.W.Frag} {mg : Str → Option Value} {F B H : Hp} {ρ : List Addr} {M : Mem} {ds : List D} {vs : List V} {Q : VK} (m : MR K F B ρ M H) (r : Rps K B ρ ds vs)
    (w : Wp K mg F B ρ U (fun d B' ρ' H' => ∀ v, Rp K B' ρ' d v → Q v H') (.ok (.ptr M.length) (M ++ [.lst ds]))) : ∀ p, H p = none → Q (.ref p) (upd H p (.lst vs)) := fun p hp => by
  have l : Le B ρ B (ρ ++ [p]) := ⟨Ex.refl B, [p], rfl⟩
  obtain ⟨m', _⟩ := m.alloc (o := .lst vs) (ob := .lst ds) hp ⟨vs, upd_same, r.mono l⟩
  exact w _ _ _ l m' _ (.ptr (by rw [← m.len]; simp))
theorem de_lstM (h : DA X W es fa) : DE X W (.List es pos) (xLstM fa) := PE.imp (pe_lst h) fun σ H Q z => by
  obtain ⟨η, F, B, ρ, M, er, m, w⟩ := z
  refine ⟨η, F, B, ρ, M, er, m, w.bind fun ds M1 B1 ρ1 H1 l1 m1 w1 xs rx => ?_⟩
  split at w1
  · next hl => exact ⟨by rw [← rx.len]; exact sz_of hl, putM m1 rx w1⟩
  · exact w1.elim

/-! ### subscripts -/
def lIx : Op2 := fun M x y => (asL M x).bind fun ds => (asI y).bind fun i => atI ds i
def tIx : Op2 := fun _ x y => (asT x).bind fun ds => (asI y).bind fun i => atI ds i
def sIx : Op2 := fun _ x y => (asS x).bind fun s => (asI y).bind fun i => if s.length ≤ sizeLine then (atI s.cps.toList i).map fun c => .str ⟨#[c]⟩ else none
theorem atI_rel {K : PySem.W.Frag} {B : Hp} {ρ : List Addr} {ds : List D} {vs : List V} {i : Int} {d : D} (r : Rps K B ρ ds vs) (h : atI ds i = some d) : ∃ v, atI vs i = some v ∧ Rp K B ρ d v := by
  unfold atI at h ⊢
  rw [r.len] at h
  cases hj : ixN vs.length i with
  | none => simp [hj] at h
  | some j =>
    simp [hj] at h
    obtain ⟨v, h1, h2⟩ := r.get h
    exact ⟨v, by simpa using h1, h2⟩
def IxD (X : Cx) (h : Op2) : Prop := ∃ r, IxR X r ∧ OSnd X.K r h
theorem IxD.or {h h' : Op2} (a : IxD X h) (b : IxD X h') : IxD X (oOr h h') := by
  obtain ⟨r, o, s⟩ := a
  obtain ⟨r', o', s'⟩ := b
  refine ⟨_, IxR.or o o', fun F B ρ M H x y dx dy dz Q m rx ry e k => ?_⟩
  unfold oOr at e
  split at e
  · next z hz => cases e; exact .inl (s F B ρ M H x y dx dy _ Q m rx ry hz k)
  · exact .inr (s' F B ρ M H x y dx dy dz Q m rx ry e k)
theorem ixd_list : IxD X lIx := by
  refine ⟨_, ix_list, fun F B ρ M H x y dx dy dz Q m rx ry e k => ?_⟩
  unfold lIx at e
  cases h1 : asL M dx with
  | none => simp [h1] at e
  | some ds =>
    cases h2 : asI dy with
    | none => simp [h1, h2] at e
    | some i =>
      simp [h1, h2] at e
      obtain ⟨a, vs, rfl, hs, rs⟩ := asL_snd m rx h1
      obtain ⟨v, hv, rv⟩ := atI_rel rs e
      exact ⟨a, vs, i, v, rfl, asI_snd ry h2, hs, hv, k.same m rv⟩
theorem ixd_tup : IxD X tIx := by
  refine ⟨_, ix_tup, fun F B ρ M H x y dx dy dz Q m rx ry e k => ?_⟩
  unfold tIx at e
  cases h1 : asT dx with
  | none => simp [h1] at e
  | some ds =>
    cases h2 : asI dy with
    | none => simp [h1, h2] at e
    | some i =>
      simp [h1, h2] at e
      obtain ⟨a, vs, rfl, hs, rs⟩ := asT_snd m rx h1
      obtain ⟨v, hv, rv⟩ := atI_rel rs e
      exact ⟨a, vs, i, v, rfl, asI_snd ry h2, hs, hv, k.same m rv⟩
theorem ixd_str : IxD X sIx := by
  refine ⟨_, ix_str, fun F B ρ M H x y dx dy dz Q m rx ry e k => ?_⟩
  unfold sIx at e
  cases h1 : asS dx with
  | none => simp [h1] at e
  | some s =>
    cases h2 : asI dy with
    | none => simp [h1, h2] at e
    | some i =>
      simp only [h1, h2, Option.bind_some] at e
      split at e
      · next hz =>
        cases h3 : atI s.cps.toList i with
        | none => rw [h3] at e; cases e
        | some c =>
          rw [h3] at e
          obtain rfl := Option.some.inj e
          exact ⟨s, i, c, asS_snd rx h1, asI_snd ry h2, hz, h3, k.same m (.str _)⟩
      · cases e
def dIx : Op2 := oOr lIx (oOr tIx sIx)
theorem de_ix (ha : DE X W a f) (hb : DE X W b g) (hs : PlainIx b := by intro _ _; rfl) : DE X W (.Subscript a b pos) (xOp dIx f g) := by
  obtain ⟨r, ho, os⟩ : IxD X dIx := ixd_list.or (ixd_tup.or ixd_str)
  exact PE.imp (pe_ix ho ha hb hs) (op_snd os (fun _ _ _ q => q) fun _ _ _ q => q)

/-! ### slices -/
abbrev XO := Dv → Mem → R (Option Int)
def tO' (K : PySem.W.Frag) (mg : Str → Option Value) (W : WX) (f : XO) : TO := fun σ H Q => ∃ η F B ρ M, ER K B ρ η σ ∧ MR K F B ρ M H ∧ Wp K mg F B ρ (wAt W σ) (fun b _ _ H' => Q b H') (f η M)
def DO (X : Cx) (W : WX) (e : Option Expr) (f : XO) : Prop := PO X e (tO' X.K X.mg W f)
theorem PO.imp {e : Option Expr} {t t' : TO} (h : PO X e t) (i : ∀ σ H Q, t' σ H Q → t σ H Q) : PO X e t' := ⟨fun pins s σ H Q I q => h.run pins s σ H Q I (i σ H Q q)⟩
def xNone : XO := fun _ M => .ok none M
def xSome (f : XE) : XO := fun η M => (f η M).bind fun d M1 => (R.of (asI d) M1).bind fun i M2 => .ok (some i) M2
theorem do_none : DO X W none xNone := PO.imp po_none fun σ H Q z => by
  obtain ⟨η, F, B, ρ, M, er, m, w⟩ := z
  exact Wp.ret (P := fun b _ _ H' => Q b H') w m
theorem do_some (he : DE X W e f) : DO X W (some e) (xSome f) := PO.imp (po_some he) fun σ H Q z => by
  obtain ⟨η, F, B, ρ, M, er, m, w⟩ := z
  refine ⟨η, F, B, ρ, M, er, m, w.bind fun d M1 B1 ρ1 H1 l1 m1 w1 x rx => ?_⟩
  cases h : asI d with
  | none => rw [h] at w1; exact w1.elim
  | some i =>
    rw [h] at w1
    exact ⟨i, asI_snd rx h, Wp.ret (P := fun b _ _ H' => Q b H') w1 m1⟩
abbrev OpS := Mem → D → Option Int → Option Int → Option D
def SSnd (K : PySem.W.Frag) (r : V → Option Int → Option Int → Hp → VK → Prop) (h : OpS) : Prop := ∀ F B ρ M H x lo hi dx dz (Q : VK), MR K F B ρ M H → Rp K B ρ dx x → h M dx lo hi = some dz → Done K F B ρ M dz Q → r x lo hi H Q
def SlD (X : Cx) (h : OpS) : Prop := ∃ r, SlR X r ∧ SSnd X.K r h
def sOr (h h' : OpS) : OpS := fun M x lo hi => match h M x lo hi with
  | some z => some z
  | none => h' M x lo hi
theorem SlD.or {h h' : OpS} (a : SlD X h) (b : SlD X h') : SlD X (sOr h h') := by
  obtain ⟨r, o, s⟩ := a
  obtain ⟨r', o', s'⟩ := b
  refine ⟨_, SlR.or o o', fun F B ρ M H x lo hi dx dz Q m rx e k => ?_⟩
  unfold sOr at e
  split at e
  · next z hz => cases e; exact .inl (s F B ρ M H x lo hi dx _ Q m rx hz k)
  · exact .inr (s' F B ρ M H x lo hi dx dz Q m rx e k)
def cutD {α : Type} (xs : List α) (lo hi : Option Int) : List α := (xs.drop (HT.sIx xs.length 0 lo)).take (HT.sIx xs.length xs.length hi - HT.sIx xs.length 0 lo)
theorem cut_rel {K : PySem.W.Frag} {B : Hp} {ρ : List Addr} {ds : List D} {vs : List V} (r : Rps K B ρ ds vs) (lo hi : Option Int) : Rps K B ρ (cutD ds lo hi) (cutV vs lo hi) := by
  unfold cutD cutV
  rw [r.len]
  exact (r.drop _).take _
def lSl : OpS := fun M x lo hi => (asL M x).map fun ds => .lst (cutD ds lo hi)
def tSl' : OpS := fun _ x lo hi => (asT x).map fun ds => .tup (cutD ds lo hi)
def sSl : OpS := fun _ x lo hi => (asS x).bind fun s => if s.length ≤ sizeLine then some (.str (cutS s lo hi)) else none
theorem sld_list : SlD X lSl := by
  refine ⟨_, sl_list, fun F B ρ M H x lo hi dx dz Q m rx e k => ?_⟩
  unfold lSl at e
  cases h1 : asL M dx with
  | none => simp [h1] at e
  | some ds =>
    simp [h1] at e
    subst e
    obtain ⟨a, vs, rfl, hs, rs⟩ := asL_snd m rx h1
    exact ⟨a, vs, rfl, hs, k.newL m (cut_rel rs lo hi)⟩
theorem sld_tup : SlD X tSl' := by
  refine ⟨_, sl_tupA, fun F B ρ M H x lo hi dx dz Q m rx e k => ?_⟩
  unfold tSl' at e
  cases h1 : asT dx with
  | none => simp [h1] at e
  | some ds =>
    simp [h1] at e
    subst e
    obtain ⟨a, vs, rfl, hs, rs⟩ := asT_snd m rx h1
    refine ⟨a, vs, rfl, hs, fun z => ?_, fun _ => k.newT m (cut_rel rs lo hi)⟩
    have e2 : cutD ds lo hi = ds := by
      unfold cutD
      rw [rs.len, z.1, z.2]
      simp [← rs.len]
    rw [e2] at k
    cases dx <;> simp [asT] at h1
    subst h1
    exact k.same m rx
theorem sld_str : SlD X sSl := by
  refine ⟨_, sl_str, fun F B ρ M H x lo hi dx dz Q m rx e k => ?_⟩
  unfold sSl at e
  cases h1 : asS dx with
  | none => simp [h1] at e
  | some s =>
    simp only [h1, Option.bind_some] at e
    split at e
    · next hz =>
      obtain rfl := Option.some.inj e
      exact ⟨s, asS_snd rx h1, hz, k.same m (.str _)⟩
    · cases e
def dSl : OpS := sOr lSl (sOr tSl' sSl)
def xSl (h : OpS) (f : XE) (l u : XO) : XE := fun η M => (f η M).bind fun x M1 => (l η M1).bind fun lo M2 => (u η M2).bind fun hi M3 => R.of (h M3 x lo hi) M3
theorem de_sl {lo hi : Option Expr} {l u : XO} {p2 : Pos} (he : DE X W e f) (hl : DO X W lo l) (hu : DO X W hi u) : DE X W (.Subscript e (.Slice lo hi none p2) pos) (xSl dSl f l u) := by
  obtain ⟨r, ho, os⟩ : SlD X dSl := sld_list.or (sld_tup.or sld_str)
  refine PE.imp (pe_slice ho he hl hu) fun σ H Q z => ?_
  obtain ⟨η, F, B, ρ, M, er, m, w⟩ := z
  refine ⟨η, F, B, ρ, M, er, m, w.bind fun dx M1 B1 ρ1 H1 l1 m1 w1 x rx => ?_⟩
  refine ⟨η, F, B1, ρ1, M1, er.mono l1, m1, w1.bind fun o1 M2 B2 ρ2 H2 l2 m2 w2 => ?_⟩
  refine ⟨η, F, B2, ρ2, M2, er.mono (l1.trans l2), m2, w2.bind fun o2 M3 B3 ρ3 H3 l3 m3 w3 => ?_⟩
  obtain ⟨dz, hz, w4⟩ := w3.of
  exact os F B3 ρ3 M3 H3 x o1 o2 dx dz Q m3 (rx.mono (l2.trans l3)) hz (done_of w4)

/-! ### calls of what is built in -/
abbrev OpC := Mem → List D → Option D
def CSnd (K : PySem.W.Frag) (r : List V → Hp → VK → Prop) (h : OpC) : Prop := ∀ F B ρ M H xs ds dz (Q : VK), MR K F B ρ M H → Rps K B ρ ds xs → h M ds = some dz → Done K F B ρ M dz Q → r xs H Q
def CallD (X : Cx) (v : Value) (h : OpC) : Prop := ∃ r, CallR X v r ∧ CSnd X.K r h
def cOr (h h' : OpC) : OpC := fun M ds => match h M ds with
  | some z => some z
  | none => h' M ds
theorem CallD.or {v : Value} {h h' : OpC} (a : CallD X v h) (b : CallD X v h') : CallD X v (cOr h h') := by
  obtain ⟨r, o, s⟩ := a
  obtain ⟨r', o', s'⟩ := b
  refine ⟨_, CallR.or o o', fun F B ρ M H xs ds dz Q m rx e k => ?_⟩
  unfold cOr at e
  split at e
  · next z hz => cases e; exact .inl (s F B ρ M H xs ds _ Q m rx hz k)
  · exact .inr (s' F B ρ M H xs ds dz Q m rx e k)
def xCall (h : OpC) (g : XA) : XE := fun η M => (g η M).bind fun ds M1 => R.of (h M1 ds) M1
theorem call_snd {r : List V → Hp → VK → Prop} {h : OpC} (os : CSnd X.K r h) (σ : L2.St) (H : Hp) (Q : VK) (z : tE X.K X.mg W (xCall h fa) σ H Q) : tCB r (tA X.K X.mg W fa) σ H Q := by
  obtain ⟨η, F, B, ρ, M, er, m, w⟩ := z
  refine ⟨η, F, B, ρ, M, er, m, w.bind fun ds M1 B1 ρ1 H1 l1 m1 w1 xs rx => ?_⟩
  obtain ⟨dz, hz, w2⟩ := w1.of
  exact os F B1 ρ1 M1 H1 xs ds dz Q m1 rx hz (done_of w2)
theorem de_callB {x : Str} {id : String} {h : OpC} {p : Pos} (o : CallD X (.builtin id) h) (hg : Gl X x) (hm : X.mg x = none) (hv : bootBuiltins x = some (.builtin id)) (ha : DA X W (e :: es) fa) (hn : x ≠ "__name__" := by decide) (hdb : (x == ("__debug__" : Str)) = false := by decide)
    (hs : starEach (e :: es) X.env = (false, eval e X.env) :: starEach es X.env := by rfl) (hp : (backTo pos (starEach es X.env)).any (·.1) = false := by rfl) : DE X W (.Call (.Name x p) (e :: es) [] pos) (xCall h fa) := by
  obtain ⟨r, ho, os⟩ := o
  exact PE.imp (pe_callB ho hg hm hv ha hn hdb hs hp) (call_snd os)
theorem de_callTy {x : Str} {T : String} {h : OpC} {p : Pos} (o : CallD X (.type T) h) (hg : Gl X x) (hm : X.mg x = none) (hv : bootBuiltins x = some (.type T)) (ha : DA X W (e :: es) fa) (hn : x ≠ "__name__" := by decide) (hdb : (x == ("__debug__" : Str)) = false := by decide)
    (hs : starEach (e :: es) X.env = (false, eval e X.env) :: starEach es X.env := by rfl) (hp : (backTo pos (starEach es X.env)).any (·.1) = false := by rfl) : DE X W (.Call (.Name x p) (e :: es) [] pos) (xCall h fa) := by
  obtain ⟨r, ho, os⟩ := o
  exact PE.imp (pe_callTy ho hg hm hv ha hn hdb hs hp) (call_snd os)
/-! the built-ins on data -/
def one (h : Mem → D → Option D) : OpC := fun M ds => match ds with
  | [d] => h M d
  | _ => none
def two (h : Mem → D → D → Option D) : OpC := fun M ds => match ds with
  | [d, e] => h M d e
  | _ => none
theorem one_some {h : Mem → D → Option D} {M : Mem} {ds : List D} {z : D} (e : one h M ds = some z) : ∃ d, ds = [d] ∧ h M d = some z := by
  unfold one at e
  split at e
  · exact ⟨_, rfl, e⟩
  · cases e
theorem two_some {h : Mem → D → D → Option D} {M : Mem} {ds : List D} {z : D} (e : two h M ds = some z) : ∃ d c, ds = [d, c] ∧ h M d c = some z := by
  unfold two at e
  split at e
  · exact ⟨_, _, rfl, e⟩
  · cases e
def bAbs : OpC := one fun _ d => (asI d).map fun i => .int (if i < 0 then -i else i)
theorem cd_abs : CallD X (.builtin "abs") bAbs := by
  refine ⟨_, call_abs, fun F B ρ M H xs ds dz Q m rx e k => ?_⟩
  obtain ⟨d, rfl, h⟩ := one_some e
  cases rx with
  | cons r rr =>
    cases rr
    cases hi : asI d with
    | none => simp [hi] at h
    | some i =>
      simp [hi] at h
      subst h
      exact ⟨i, by rw [asI_snd r hi], k.same m (.int _)⟩
def bMax : OpC := two fun _ d c => (asI d).bind fun i => (asI c).bind fun j => some (.int (if j > i then j else i))
def bMin : OpC := two fun _ d c => (asI d).bind fun i => (asI c).bind fun j => some (.int (if j < i then j else i))
theorem cd_max (hc : X.calm = true) : CallD X (.builtin "max") bMax := by
  refine ⟨_, call_max2 hc, fun F B ρ M H xs ds dz Q m rx e k => ?_⟩
  obtain ⟨d, c, rfl, h⟩ := two_some e
  cases rx with
  | cons r rr =>
    cases rr with
    | cons r' rr =>
      cases rr
      cases hi : asI d with
      | none => simp [hi] at h
      | some i =>
        cases hj : asI c with
        | none => simp [hi, hj] at h
        | some j =>
          simp only [hi, hj, Option.bind_some] at h
          obtain rfl := Option.some.inj h
          exact ⟨i, j, by rw [asI_snd r hi, asI_snd r' hj], k.same m (.int _)⟩
theorem cd_min (hc : X.calm = true) : CallD X (.builtin "min") bMin := by
  refine ⟨_, call_min2 hc, fun F B ρ M H xs ds dz Q m rx e k => ?_⟩
  obtain ⟨d, c, rfl, h⟩ := two_some e
  cases rx with
  | cons r rr =>
    cases rr with
    | cons r' rr =>
      cases rr
      cases hi : asI d with
      | none => simp [hi] at h
      | some i =>
        cases hj : asI c with
        | none => simp [hi, hj] at h
        | some j =>
          simp only [hi, hj, Option.bind_some] at h
          obtain rfl := Option.some.inj h
          exact ⟨i, j, by rw [asI_snd r hi, asI_snd r' hj], k.same m (.int _)⟩
/-- int of an int or a truth -/
def bInt : OpC := one fun _ d => match d with
  | .int i => some (.int i)
  | .bl b => some (.int (if b then 1 else 0))
  | _ => none
theorem cd_int : CallD X (.type "int") bInt := by
  refine ⟨_, call_int1, fun F B ρ M H xs ds dz Q m rx e k => ?_⟩
  obtain ⟨d, rfl, h⟩ := one_some e
  cases rx with
  | cons r rr =>
    cases rr
    split at h
    · obtain rfl := Option.some.inj h
      cases r
      exact .inl ⟨_, rfl, k.same m (.int _)⟩
    · obtain rfl := Option.some.inj h
      cases r
      exact .inr ⟨_, rfl, k.same m (.int _)⟩
    · cases h
/-- how many -/
def lenD (M : Mem) (d : D) : Option Nat := match asL M d with
  | some ds => some ds.length
  | none => match asT d with
    | some ds => some ds.length
    | none => match asS d with
      | some s => if s.length ≤ sizeLine then some s.length else none
      | none => none
def bLen : OpC := one fun M d => (lenD M d).map fun n => .int n
theorem cd_len : CallD X (.builtin "len") bLen := by
  refine ⟨_, call_len_seq.or call_len_str, fun F B ρ M H xs ds dz Q m rx e k => ?_⟩
  obtain ⟨d, rfl, h⟩ := one_some e
  cases rx with
  | cons r rr =>
    cases rr
    unfold lenD at h
    split at h
    · next es he =>
      simp at h
      subst h
      obtain ⟨a, vs, rfl, hs, rs⟩ := asL_snd m r he
      exact .inl ⟨a, vs, rfl, .inl hs, by rw [← rs.len]; exact k.same m (.int _)⟩
    · split at h
      · next es he =>
        simp at h
        subst h
        obtain ⟨a, vs, rfl, hs, rs⟩ := asT_snd m r he
        exact .inl ⟨a, vs, rfl, .inr hs, by rw [← rs.len]; exact k.same m (.int _)⟩
      · split at h
        · next s he =>
          split at h
          · next hz =>
            simp at h
            subst h
            rw [asS_snd r he]
            exact .inr ⟨s, rfl, hz, k.same m (.int _)⟩
          · simp at h
        · simp at h
/-- all truths -/
def asBs : List D → Option (List Bool)
  | [] => some []
  | d :: ds => (asB d).bind fun b => (asBs ds).map (b :: ·)
theorem asBs_snd {K : PySem.W.Frag} {B : Hp} {ρ : List Addr} : ∀ {ds : List D} {vs : List V} {bs : List Bool}, Rps K B ρ ds vs → asBs ds = some bs → vs = bs.map V.bl
  | _, _, _, .nil, h => by cases h; rfl
  | _, _, bs, .cons (d := d) (ds := ds) r t, h => by
    unfold asBs at h
    cases h1 : asB d with
    | none => simp [h1] at h
    | some b =>
      cases h2 : asBs ds with
      | none => simp [h1, h2] at h
      | some cs =>
        simp [h1, h2] at h
        subst h
        rw [asBs_snd t h2]
        rw [asB_some h1] at r
        cases r
        rfl
def bAll : OpC := one fun M d => (asL M d).bind fun ds => (asBs ds).map fun bs => .bl (bs.all id)
theorem cd_all (hc : X.calm = true) : CallD X (.builtin "all") bAll := by
  refine ⟨_, cr_all hc, fun F B ρ M H xs ds dz Q m rx e k => ?_⟩
  obtain ⟨d, rfl, h⟩ := one_some e
  cases rx with
  | cons r rr =>
    cases rr
    cases h1 : asL M d with
    | none => simp [h1] at h
    | some es =>
      cases h2 : asBs es with
      | none => simp [h1, h2] at h
      | some bs =>
        simp only [h1, h2, Option.bind_some, Option.map_some] at h
        obtain rfl := Option.some.inj h
        obtain ⟨a, vs, rfl, hs, rs⟩ := asL_snd m r h1
        have := asBs_snd rs h2
        subst this
        exact ⟨a, bs, rfl, hs, k.same m (.bl _)⟩
/-- list of a list or tuple; tuple of them -/
def bList : OpC := one fun M d => match asL M d with
  | some ds => some (.lst ds)
  | none => (asT d).map fun ds => .lst ds
def bTuple : OpC := one fun M d => match asL M d with
  | some ds => some (.tup ds)
  | none => (asT d).map fun ds => .tup ds
theorem cd_list : CallD X (.type "list") bList := by
  refine ⟨_, call_list_of, fun F B ρ M H xs ds dz Q m rx e k => ?_⟩
  obtain ⟨d, rfl, h⟩ := one_some e
  cases rx with
  | cons r rr =>
    cases rr
    split at h
    · next es he =>
      obtain rfl := Option.some.inj h
      obtain ⟨a, vs, rfl, hs, rs⟩ := asL_snd m r he
      exact ⟨a, vs, rfl, .inl hs, k.newL m rs⟩
    · cases h2 : asT d with
      | none => simp [h2] at h
      | some es =>
        simp [h2] at h
        subst h
        obtain ⟨a, vs, rfl, hs, rs⟩ := asT_snd m r h2
        exact ⟨a, vs, rfl, .inr hs, k.newL m rs⟩
theorem cd_tuple : CallD X (.type "tuple") bTuple := by
  refine ⟨_, call_tuple_of, fun F B ρ M H xs ds dz Q m rx e k => ?_⟩
  obtain ⟨d, rfl, h⟩ := one_some e
  cases rx with
  | cons r rr =>
    cases rr
    split at h
    · next es he =>
      obtain rfl := Option.some.inj h
      obtain ⟨a, vs, rfl, hs, rs⟩ := asL_snd m r he
      exact ⟨a, vs, rfl, .inl ⟨hs, k.newT m rs⟩⟩
    · cases h2 : asT d with
      | none => simp [h2] at h
      | some es =>
        simp [h2] at h
        subst h
        have r2 := r
        obtain ⟨a, vs, rfl, hs, rs⟩ := asT_snd m r h2
        cases d <;> simp [asT] at h2
        subst h2
        exact ⟨a, vs, rfl, .inr ⟨hs, k.same m r2⟩⟩
/-- the class of a thing, by name -/
def tyN (M : Mem) : D → Option String
  | .non => some "NoneType"
  | .bl _ => some "bool"
  | .int _ => some "int"
  | .str _ => some "str"
  | .lst _ => some "list"
  | .tup _ => some "tuple"
  | .dct _ => some "dict"
  | .ptr n => match M[n]? with
    | some (.lst _) => some "list"
    | some (.dK _) => some "dict"
    | some (.dT _) => some "dict"
    | _ => none
  | _ => none
theorem tyN_snd {K : PySem.W.Frag} {F B H : Hp} {ρ : List Addr} {M : Mem} (m : MR K F B ρ M H) {d : D} {v : V} {t : String} (r : Rp K B ρ d v) (h : tyN M d = some t) : TyX K H v (.type t) := by
  cases r with
  | non => cases h; exact .base .non
  | bl b => cases h; exact .base (.bl b)
  | int i => cases h; exact .base (.int i)
  | str s => cases h; exact .base (.str s)
  | lst e q => cases h; exact .base (.lst (m.ex _ _ e))
  | tup e q =>
    cases h
    rcases ex_t m.ex e with (e | ⟨o, e⟩) | ⟨o, its, n, e1, e2, _⟩
    · exact .base (.tup e)
    · exact .fTuple e
    · exact .kTuple e1 e2
  | dct e q => cases h; exact .fDict (m.ex _ _ e)
  | dcT e q => cases h
  | ins c e q => cases h
  | fn c => cases h
  | scr e => cases h
  | @ptr n a ha =>
    have h' : (match M[n]? with | some (.lst _) => some "list" | some (.dK _) => some "dict" | some (.dT _) => some "dict" | _ => none) = some t := h
    split at h'
    · next ds hm =>
      cases h'
      obtain ⟨b, hb, _, vs, e, _⟩ := m.ob n _ hm
      rw [ha] at hb
      cases hb
      exact .base (.lst e)
    · next ds hm =>
      cases h'
      obtain ⟨b, hb, _, vs, e, _⟩ := m.ob n _ hm
      rw [ha] at hb
      cases hb
      exact .base (.dK e)
    · next ds hm =>
      cases h'
      obtain ⟨b, hb, _, vs, e, _⟩ := m.ob n _ hm
      rw [ha] at hb
      cases hb
      exact .base (.dT e)
    · cases h'
  | raw v => cases h
def bIsi : OpC := two fun M d c => match c with
  | .raw (.ty t) => (tyN M d).bind fun s => (kitB s t).map D.bl
  | _ => none
theorem cd_isi : CallD X (.builtin "isinstance") bIsi := by
  refine ⟨_, call_isi, fun F B ρ M H xs ds dz Q m rx e k => ?_⟩
  obtain ⟨d, c, rfl, h⟩ := two_some e
  cases rx with
  | cons r rr =>
    cases rr with
    | cons r' rr =>
      cases rr
      split at h
      · next t =>
        cases r'
        cases h1 : tyN M d with
        | none => simp [h1] at h
        | some s =>
          cases h2 : kitB s t with
          | none => simp [h1, h2] at h
          | some b =>
            simp [h1, h2] at h
            subst h
            exact ⟨_, .ty t, .type s, .type t, b, rfl, .ty t, tyN_snd m r h1, kit_ty h2, k.same m (.bl _)⟩
      · cases h
/-- sorted of texts -/
def asSs : List D → Option (List Str)
  | [] => some []
  | d :: ds => (asS d).bind fun b => (asSs ds).map (b :: ·)
theorem asSs_snd {K : PySem.W.Frag} {B : Hp} {ρ : List Addr} : ∀ {ds : List D} {vs : List V} {bs : List Str}, Rps K B ρ ds vs → asSs ds = some bs → vs = bs.map V.str
  | _, _, _, .nil, h => by cases h; rfl
  | _, _, bs, .cons (d := d) (ds := ds) r t, h => by
    unfold asSs at h
    cases h1 : asS d with
    | none => simp [h1] at h
    | some b =>
      cases h2 : asSs ds with
      | none => simp [h1, h2] at h
      | some cs =>
        simp [h1, h2] at h
        subst h
        rw [asSs_snd t h2, asS_snd r h1]
        rfl
theorem rps_strs {K : PySem.W.Frag} {B : Hp} {ρ : List Addr} : ∀ (ns : List Str), Rps K B ρ (ns.map D.str) (ns.map V.str)
  | [] => .nil
  | n :: ns => .cons (.str n) (rps_strs ns)
end
end Dn

namespace Dn
open PySem L2 Evl
section
variable {X : Cx} {W : WX} {a b c e o tg : Expr} {es : List Expr} {f g k : XE} {fa : XA} {p : XT} {pos : Pos}
/-! ### targets -/
def xgName (i : Nat) : XG := fun d η M => .ok (η.set i (some d)) M
theorem dg_name {i : Nat} {x : Str} (hN : X.N.Nodup) (hi : X.N[i]? = some x := by rfl) (hx : Loc X.env.scope x := by first | exact Or.inl rfl | exact Or.inr rfl) (hf : X.fn x = true ∨ X.env.scope.names.lookup x = some .local := by first | exact .inl rfl | exact .inr rfl | assumption) : DG X W (.Name x pos) [i] (xgName i) :=
  PG.imp (pg_name hN hi hx hf) fun v σ H Q z => by
    obtain ⟨d, η, F, B, ρ, M, r, e, m, w⟩ := z
    exact Wp.ret w m _ (e.set i r) (Off.set i _ σ)
def xgsNil : List D → Dv → Mem → R Dv := fun ds η M => match ds with
  | [] => .ok η M
  | _ => .no
def xgsCons (g : XG) (gs : List D → Dv → Mem → R Dv) : List D → Dv → Mem → R Dv := fun ds η M => match ds with
  | d :: r => (g d η M).bind fun η' M1 => gs r η' M1
  | [] => .no
theorem dgs_nil : DGs X W [] [] xgsNil := PGs.imp pgs_nil fun v σ H Q z => by
  obtain ⟨ds, η, F, B, ρ, M, r, e, m, w⟩ := z
  cases r with
  | nil => exact ⟨rfl, Wp.ret w m _ e (Off.refl _ _)⟩
  | cons r rr => exact w.elim
theorem dgs_cons {ts us : List Nat} {g : XG} {gs : List D → Dv → Mem → R Dv} (h1 : DG X W e ts g) (h2 : DGs X W es us gs) (hs : (assignEach (e :: es) X.env).map (·.2) = assign e X.env :: (assignEach es X.env).map (·.2) := by rfl) :
    DGs X W (e :: es) (ts ++ us) (xgsCons g gs) := PGs.imp (pgs_cons h1 h2 hs) fun v σ H Q z => by
  obtain ⟨ds, η, F, B, ρ, M, r, er, m, w⟩ := z
  cases r with
  | nil => exact w.elim
  | @cons d v ds vs r rr =>
    have w : Wp X.K X.mg F B ρ (wAll W) _ ((g d η M).bind fun η' M1 => gs ds η' M1) := w
    refine ⟨v, vs, rfl, d, η, F, B, ρ, M, r, er, m, w.bind fun η1 M1 B1 ρ1 H1 l1 m1 w1 σ1 e1 o1 => ?_⟩
    exact ⟨ds, η1, F, B1, ρ1, M1, rr.mono l1, e1, m1, w1.imp fun η2 B2 ρ2 H2 l2 q σ2 e2 o2 => q σ2 e2 (o1.trans o2)⟩
def xgTup (n : Nat) (gs : List D → Dv → Mem → R Dv) : XG := fun d η M => match asT d with
  | some ds => if ds.length = n then gs ds η M else .no
  | none => .no
theorem dg_tup {kk : Nat} {ts : List Nat} {n : Nat} {gs : List D → Dv → Mem → R Dv} (hc : X.calm = true) (h : DGs X W es ts gs) (hn : (assignEach es X.env).length = n := by rfl) (hst : (assignEach es X.env).findIdx? (·.1) = none := by rfl) :
    DG X W (.Tuple es kk pos) ts (xgTup n gs) := PG.imp (pg_tup hc h hn hst) fun v σ H Q z => by
  obtain ⟨d, η, F, B, ρ, M, r, er, m, w⟩ := z
  unfold xgTup at w
  split at w
  · next ds hd =>
    split at w
    · next hl =>
      obtain ⟨a, vs, rfl, hs, rs⟩ := asT_snd m r hd
      exact ⟨a, vs, rfl, hs, by rw [← rs.len]; exact hl, ds, η, F, B, ρ, M, rs, er, m, w⟩
    · exact w.elim
  · exact w.elim

/-! ### blocks, small statements -/
def xNx : XS := fun η M => .ok (.nx η) M
def thenS (g : XS) : Fl → Mem → R Fl := fun fl M => match fl with
  | .nx η => g η M
  | .rt d => .ok (.rt d) M
  | .bk η => .ok (.bk η) M
  | .ct η => .ok (.ct η) M
def xSeq (f g : XS) : XS := fun η M => (f η M).bind (thenS g)
variable {st : Stmt} {rest : List Stmt} {s u : XS}
theorem dss_nil : DSs X W [] xNx := PSs.imp pss_nil fun E σ H z => by
  obtain ⟨η, F, B, ρ, M, er, m, w⟩ := z
  exact Wp.ret (P := FlP X.K E) w m σ er
theorem dss_one (h : DS X W st s) : DSs X W [st] s := PSs.imp (pss_one h) fun E σ H z => z
theorem dss_cons (h1 : DS X W st s) (h2 : DSs X W rest u) : DSs X W (st :: rest) (xSeq s u) := PSs.imp (pss_cons h1 h2) fun E σ H z => by
  obtain ⟨η, F, B, ρ, M, er, m, w⟩ := z
  refine ⟨η, F, B, ρ, M, er, m, w.bind fun fl M1 B1 ρ1 H1 l1 m1 w1 => ?_⟩
  cases fl with
  | nx η' => exact fun σ' e' => ⟨η', F, B1, ρ1, M1, e', m1, w1⟩
  | rt d => exact Wp.ret (P := FlP X.K E) w1 m1
  | bk η' => exact Wp.ret (P := FlP X.K E) w1 m1
  | ct η' => exact Wp.ret (P := FlP X.K E) w1 m1
def xBk : XS := fun η M => .ok (.bk η) M
def xCt : XS := fun η M => .ok (.ct η) M
theorem ds_pass : DS X W (.Pass pos) xNx := PS.imp ps_pass fun E σ H z => by
  obtain ⟨η, F, B, ρ, M, er, m, w⟩ := z
  exact Wp.ret (P := FlP X.K E) w m σ er
theorem ds_break : DS X W (.Break pos) xBk := PS.imp ps_break fun E σ H z => by
  obtain ⟨η, F, B, ρ, M, er, m, w⟩ := z
  exact Wp.ret (P := FlP X.K E) w m σ er
theorem ds_continue : DS X W (.Continue pos) xCt := PS.imp ps_continue fun E σ H z => by
  obtain ⟨η, F, B, ρ, M, er, m, w⟩ := z
  exact Wp.ret (P := FlP X.K E) w m σ er
theorem ds_never {st : Stmt} : DS X W st (fun _ _ => .no) := PS.imp ps_never fun E σ H z => by
  obtain ⟨η, F, B, ρ, M, er, m, w⟩ := z
  exact w.elim
def xDrop (f : XE) : XS := fun η M => (f η M).bind fun _ M1 => .ok (.nx η) M1
theorem ds_expr (he : DE X W e f) (hs : swapsWith e none pos.line X.env = pure false := by rfl) : DS X W (.Expr e pos) (xDrop f) := PS.imp (ps_expr he hs) fun E σ H z => by
  obtain ⟨η, F, B, ρ, M, er, m, w⟩ := z
  exact ⟨η, F, B, ρ, M, er, m, w.bind fun d M1 B1 ρ1 H1 l1 m1 w1 v rv => Wp.ret (P := FlP X.K E) w1 m1 σ (er.mono l1)⟩
def xRet (f : XE) : XS := fun η M => (f η M).bind fun d M1 => .ok (.rt d) M1
theorem ds_ret (he : DE X W e f) : DS X W (.Return (some e) pos) (xRet f) := PS.imp (ps_ret he) fun E σ H z => by
  obtain ⟨η, F, B, ρ, M, er, m, w⟩ := z
  exact ⟨η, F, B, ρ, M, er, m, w.bind fun d M1 B1 ρ1 H1 l1 m1 w1 v rv => Wp.ret (P := FlP X.K E) w1 m1 v rv⟩
def xRetN : XS := fun η M => .ok (.rt .non) M
theorem ds_retN : DS X W (.Return none pos) xRetN := PS.imp ps_retN fun E σ H z => by
  obtain ⟨η, F, B, ρ, M, er, m, w⟩ := z
  exact Wp.ret (P := FlP X.K E) w m .non .non
def xIfS (p : XT) (s u : XS) : XS := fun η M => (p η M).bind fun b M1 => if b = true then s η M1 else u η M1
theorem ds_if {c : Expr} {xs ys : List Stmt} (hc : DT X W c p) (ha : DSs X W xs s) (hb : DSs X W ys u) : DS X W (.If c xs ys pos) (xIfS p s u) := PS.imp (ps_if hc ha hb) fun E σ H z => by
  obtain ⟨η, F, B, ρ, M, er, m, w⟩ := z
  refine ⟨η, F, B, ρ, M, er, m, w.bind fun t M1 B1 ρ1 H1 l1 m1 w1 => ?_⟩
  cases t with
  | true => exact ⟨η, F, B1, ρ1, M1, er.mono l1, m1, w1⟩
  | false => exact ⟨η, F, B1, ρ1, M1, er.mono l1, m1, w1⟩
/-! ### assignments -/
def xAsg (f : XE) (g : XG) : XS := fun η M => (f η M).bind fun d M1 => (g d η M1).bind fun η' M2 => .ok (.nx η') M2
theorem asg_snd {ts : List Nat} {g : XG} (E : Ends) (σ : L2.St) (H : Hp) (z : tS X.K X.mg W (xAsg f g) E σ H) : tE X.K X.mg W f σ H fun x H1 => tG X.K X.mg W ts g x σ H1 E.nx := by
  obtain ⟨η, F, B, ρ, M, er, m, w⟩ := z
  refine ⟨η, F, B, ρ, M, er, m, w.bind fun d M1 B1 ρ1 H1 l1 m1 w1 v rv => ?_⟩
  exact ⟨d, η, F, B1, ρ1, M1, rv, er.mono l1, m1, w1.bind fun η' M2 B2 ρ2 H2 l2 m2 w2 σ' e' _ => Wp.ret (P := FlP X.K E) w2 m2 σ' e'⟩
theorem ds_asg {ts : List Nat} {g : XG} (he : DE X W e f) (hg : DG X W tg ts g) (hs : swapsWithSole [tg] e pos.line X.env = pure false := by rfl) (hw : swappedStores [tg] e X.env = pure none := by rfl)
    (h1 : (assignEach [tg] X.env).map (·.2) = [assign tg X.env] := by rfl) : DS X W (.Assign [tg] e pos) (xAsg f g) := PS.imp (ps_asg he hg hs hw h1) asg_snd
theorem set_snd {i : Nat} (E : Ends) (σ : L2.St) (H : Hp) (z : tS X.K X.mg W (xAsg f (xgName i)) E σ H) : tE X.K X.mg W f σ H fun x H1 => gName i x σ H1 E.nx := by
  obtain ⟨η, F, B, ρ, M, er, m, w⟩ := z
  exact ⟨η, F, B, ρ, M, er, m, w.bind fun d M1 B1 ρ1 H1 l1 m1 w1 v rv => Wp.ret (P := FlP X.K E) w1 m1 _ ((er.mono l1).set i rv)⟩
theorem ds_set {i : Nat} {x : Str} {pos' : Pos} (hN : X.N.Nodup) (he : DE X W e f) (hi : X.N[i]? = some x := by rfl) (hx : Loc X.env.scope x := by first | exact Or.inl rfl | exact Or.inr rfl) (hs : swapsWith e (some (.Name x pos')) pos.line X.env = pure false := by rfl)
    (hf : X.fn x = true ∨ X.env.scope.names.lookup x = some .local := by first | exact .inl rfl | exact .inr rfl | assumption) : DS X W (.Assign [.Name x pos'] e pos) (xAsg f (xgName i)) := PS.imp (ps_set hN hi hx he hs hf) set_snd
/-- a, b = x, y -/
def xPar (i j : Nat) (f g : XE) : XS := fun η M => (f η M).bind fun d M1 => (g η M1).bind fun c M2 => .ok (.nx ((η.set i (some d)).set j (some c))) M2
theorem ds_par {i j : Nat} {x y : Str} {px py pt : Pos} {kt k2 pt2} (hc : X.calm = true) (hN : X.N.Nodup) (hij : i ≠ j) (ha : DE X W a f) (hb : DE X W b g) (hi : X.N[i]? = some x := by rfl) (hj : X.N[j]? = some y := by rfl)
    (hx : X.env.scope.names.lookup x = some .local := by rfl) (hy : X.env.scope.names.lookup y = some .local := by rfl)
    (hw : swappedStores [.Tuple [.Name x px, .Name y py] kt pt] (.Tuple [a, b] k2 pt2) X.env = pure (some [x, y]) := by rfl)
    (hs : swapsWithSole [.Tuple [.Name x px, .Name y py] kt pt] (.Tuple [a, b] k2 pt2) pos.line X.env = pure false := by rfl)
    (hs1 : starEach [a, b] X.env = (false, eval a X.env) :: starEach [b] X.env := by rfl) (hs2 : starEach [b] X.env = (false, eval b X.env) :: starEach [] X.env := by rfl) :
    DS X W (.Assign [.Tuple [.Name x px, .Name y py] kt pt] (.Tuple [a, b] k2 pt2) pos) (xPar i j f g) := PS.imp (ps_par hc hN hi hj hij hx hy (pa_cons ha (pa_cons hb pa_nil hs2) hs1) hw hs) fun E σ H z => by
  obtain ⟨η, F, B, ρ, M, er, m, w⟩ := z
  refine ⟨η, F, B, ρ, M, er, m, w.bind fun d M1 B1 ρ1 H1 l1 m1 w1 v rv => ?_⟩
  refine ⟨η, F, B1, ρ1, M1, er.mono l1, m1, w1.bind fun c M2 B2 ρ2 H2 l2 m2 w2 v2 rv2 => ?_⟩
  exact ⟨v, v2, rfl, Wp.ret (P := FlP X.K E) w2 m2 _ (((er.mono (l1.trans l2)).set i (rv.mono l2)).set j rv2)⟩
/-- xs[i] = v of a list that may change -/
def xSetL (v o i : XE) : XS := fun η M => (v η M).bind fun d M1 => (o η M1).bind fun l M2 => (i η M2).bind fun z M3 => match l, z with
  | .ptr n, .int j => match M3[n]? with
    | some (.lst ds) => match ixN ds.length j with
      | some q => .ok (.nx η) (M3.set n (.lst (ds.set q d)))
      | none => .no
    | _ => .no
  | _, _ => .no
theorem ds_setL {ti v : Expr} {h : XE} (he : DE X W v h) (ho : DE X W o f) (hi : DE X W ti g) (hw : swappedStores [.Subscript o ti pos] v X.env = pure none := by rfl)
    {spos : Pos} (hs' : swapsWithSole [.Subscript o ti pos] v spos.line X.env = pure false := by rfl)
    (h1 : (assignEach [.Subscript o ti pos] X.env).map (·.2) = [assign (.Subscript o ti pos) X.env] := by rfl)
    (hp : ∀ v, assign (.Subscript o ti pos) X.env v = (do
      let ov ← holding [v] (eval o X.env)
      let iv ← holding [v, ov] (eval ti X.env)
      standAt pos
      holding [v, ov, iv] (setItem ov iv v)
      release [v, ov, iv] []) := by intro _; rfl) : DS X W (.Assign [.Subscript o ti pos] v spos) (xSetL h f g) := PS.imp (ps_asg he (pg_sub ho hi set_list hp) hs' hw h1) fun E σ H z => by
  obtain ⟨η, F, B, ρ, M, er, m, w⟩ := z
  refine ⟨η, F, B, ρ, M, er, m, w.bind fun d M1 B1 ρ1 H1 l1 m1 w1 x rx => ?_⟩
  refine ⟨η, F, B1, ρ1, M1, er.mono l1, m1, w1.bind fun dl M2 B2 ρ2 H2 l2 m2 w2 y ry => ?_⟩
  refine ⟨η, F, B2, ρ2, M2, er.mono (l1.trans l2), m2, w2.bind fun dz M3 B3 ρ3 H3 l3 m3 w3 z rz => ?_⟩
  split at w3
  · next n j =>
    split at w3
    · next ds hm =>
      split at w3
      · next q hq =>
        cases rz
        have ry3 := ry.mono l3
        cases ry3 with
        | @ptr _ a ha =>
          obtain ⟨vs, hH, rs, hB⟩ := m3.list ha hm
          refine ⟨a, vs, j, q, rfl, rfl, hH, by rw [← rs.len]; exact hq, ?_⟩
          have m4 := m3.put (o := .lst (vs.set q x)) (ob := .lst (ds.set q d)) ha hm (by intro z; cases z) ⟨_, upd_same, rs.set q (rx.mono (l2.trans l3))⟩
          exact w3 _ _ _ (Le.refl _ _) m4 σ (er.mono ((l1.trans l2).trans l3))
      · exact w3.elim
    · exact w3.elim
  · exact w3.elim
end
end Dn

namespace Dn
open PySem L2 Evl
section
variable {X : Cx} {W : WX} {a b c e o tg it : Expr} {es : List Expr} {f g k : XE} {fa : XA} {p : XT} {pos : Pos}
/-! ### what is walked -/
def xRng (g : XA) : XI := fun η M => (g η M).bind fun ds M1 => match ds with
  | [.int j] => if -(2 ^ 62) ≤ j ∧ j < 2 ^ 62 then .ok ((List.range j.toNat).map fun i => .int (i : Nat)) M1 else .no
  | _ => .no
theorem walk_rng {K : PySem.W.Frag} {B : Hp} {ρ : List Addr} {n : Nat} : WalkD K (Itr 0 n) B ρ ((List.range n).map fun i => .int (i : Nat)) := by
  refine ⟨⟨fun _ => True, _, by simpa using walk_range, fun _ _ => trivial, fun i d h F B1 ρ1 M H x H2 l m y => ?_⟩⟩
  obtain ⟨rfl, rfl⟩ := y
  refine ⟨B1, Le.refl _ _, m, ?_, Ex.refl _⟩
  rw [List.getElem?_map] at h
  cases hr : (List.range n)[i]? with
  | none => rw [hr] at h; cases h
  | some q =>
    rw [hr] at h
    simp at h
    have : q = i := by
      have := (List.getElem?_eq_some_iff.mp hr).2
      simpa using this.symm
    subst this
    rw [← h]
    simpa using Rp.int (K := K) (B := B1) (ρ := ρ1) ((q : Nat) : Int)
theorem di_range1 {p0 pos : Pos} (hg : Gl X "range") (hm : X.mg "range" = none) (ha : DA X W [a] fa) (hs : starEach [a] X.env = [(false, eval a X.env)] := by rfl) : DI X W tg (.Call (.Name "range" p0) [a] [] pos) (xRng fa) :=
  PI.imp (pi_range1 hg hm ha hs) fun σ H Q z => by
    obtain ⟨η, F, B, ρ, M, er, m, w⟩ := z
    refine ⟨η, F, B, ρ, M, er, m, w.bind fun ds M1 B1 ρ1 H1 l1 m1 w1 vs rv => ?_⟩
    split at w1
    · next j =>
      split at w1
      · next hj =>
        cases rv with
        | cons r rr =>
          cases rr
          cases r
          exact ⟨j, rfl, hj.1, hj.2, Wp.ret w1 m1 _ walk_rng⟩
      · exact w1.elim
    · exact w1.elim
/-- the items of a list, a tuple, a text that stay -/
def itemsD : D → Option (List D)
  | .lst ds => some ds
  | .scr ns => some (ns.map D.int)
  | .tup ds => some ds
  | .str s => some (s.cps.toList.map fun c => .str ⟨#[c]⟩)
  | _ => none
def xSq (f : XE) : XI := fun η M => (f η M).bind fun d M1 => R.of (itemsD d) M1
theorem PI.or {t t' : TI} (h : PI X tg it t) (h' : PI X tg it t') : PI X tg it (fun σ H Q => t σ H Q ∨ t' σ H Q) := ⟨fun pins s σ H Q I q => q.elim (h.run pins s σ H Q I) (h'.run pins s σ H Q I)⟩
theorem walk_at {K : PySem.W.Frag} {J : It} {G : Hp → Prop} {B : Hp} {ρ : List Addr} {ds : List D} {vs : List V} (w : Walk J vs.length G (YAt vs)) (hG : ∀ H, Ex B H → G H) (r : Rps K B ρ ds vs) : WalkD K J B ρ ds := by
  refine ⟨⟨G, YAt vs, by rw [r.len]; exact w, hG, fun i d h F B1 ρ1 M H x H2 l m y => ?_⟩⟩
  obtain ⟨rfl, hx⟩ := y
  obtain ⟨v, h1, h2⟩ := r.get h
  rw [hx] at h1
  cases h1
  exact ⟨B1, Le.refl _ _, m, h2.mono l, Ex.refl _⟩
theorem di_sq (he : DE X W it f) : DI X W tg it (xSq f) :=
  PI.imp (PI.or (pi_list he) (PI.or (pi_tup he) (pi_str he))) fun σ H Q z => by
    obtain ⟨η, F, B, ρ, M, er, m, w⟩ := z
    unfold xSq at w
    cases hr : f η M with
    | no => rw [hr] at w; exact w.elim
    | ex e1 M1 =>
      rw [hr] at w
      refine .inl ⟨η, F, B, ρ, M, er, m, ?_⟩
      rw [hr]
      exact w
    | ok d M1 =>
      rw [hr] at w
      have w : Wp X.K X.mg F B ρ (wAt W σ) _ (R.of (itemsD d) M1) := w
      obtain ⟨ds, hd, w1⟩ := w.of
      cases d with
      | lst xs =>
        cases hd
        refine .inl ⟨η, F, B, ρ, M, er, m, ?_⟩
        rw [hr]
        intro B' ρ' H' l m' v rv
        cases rv with
        | lst e1 r1 => exact ⟨_, rfl, ⟨_, sq_of (m'.ex _ _ e1)⟩, w1 B' ρ' H' l m' _ (walk_at walk_list (fun H hH => sq_of (hH _ _ e1)) r1)⟩
      | scr ns =>
        cases hd
        refine .inl ⟨η, F, B, ρ, M, er, m, ?_⟩
        rw [hr]
        intro B' ρ' H' l m' v rv
        cases rv with
        | scr e1 => exact ⟨_, rfl, ⟨_, ex_l m'.ex e1⟩, w1 B' ρ' H' l m' _ (walk_at walk_list (fun H hH => ex_l hH e1) (rps_ints ns))⟩
      | tup xs =>
        cases hd
        refine .inr (.inl ⟨η, F, B, ρ, M, er, m, ?_⟩)
        rw [hr]
        intro B' ρ' H' l m' v rv
        cases rv with
        | tup e1 r1 => exact ⟨_, rfl, ⟨_, ex_t m'.ex e1⟩, w1 B' ρ' H' l m' _ (walk_at walk_tup (fun H hH => ex_t hH e1) r1)⟩
      | str s =>
        cases hd
        refine .inr (.inr ⟨η, F, B, ρ, M, er, m, ?_⟩)
        rw [hr]
        intro B' ρ' H' l m' v rv
        cases rv
        refine ⟨s, rfl, w1 B' ρ' H' l m' _ ⟨⟨fun _ => True, _, by simpa using walk_str, fun _ _ => trivial, fun i d h F B1 ρ1 M H x H2 l m y => ?_⟩⟩⟩
        obtain ⟨rfl, c, hc, rfl⟩ := y
        refine ⟨B1, Le.refl _ _, m, ?_, Ex.refl _⟩
        rw [List.getElem?_map] at h
        have hc' : s.cps.toList[i]? = some c := by simpa using hc
        rw [hc'] at h
        simp at h
        rw [← h]
        exact .str _
      | non => cases hd
      | bl _ => cases hd
      | int _ => cases hd
      | dct _ => cases hd
      | dcT _ => cases hd
      | ins _ _ => cases hd
      | fn _ => cases hd
      | ptr _ => cases hd
      | raw _ => cases hd
/-- pairs -/
def xZip (g : XA) : XI := fun η M => (g η M).bind fun ds M1 => match ds with
  | [.lst xs, .lst ys] => .ok (xs.zip ys |>.map fun q => .tup [q.1, q.2]) M1
  | [.tup xs, .tup ys] => .ok (xs.zip ys |>.map fun q => .tup [q.1, q.2]) M1
  | _ => .no
theorem walk_pair {K : PySem.W.Frag} {J : It} {G : Hp → Prop} {B : Hp} {ρ : List Addr} {ds es : List D} {vs us : List V} (w : Walk J (min vs.length us.length) G (YPair (fun i => vs[i]?) (fun i => us[i]?))) (hG : ∀ H, Ex B H → G H) (r : Rps K B ρ ds vs) (r' : Rps K B ρ es us) :
    WalkD K J B ρ (ds.zip es |>.map fun q => .tup [q.1, q.2]) := by
  refine ⟨⟨G, _, by rw [List.length_map, List.length_zip, r.len, r'.len]; exact w, hG, fun i d h F B1 ρ1 M H x H2 l m y => ?_⟩⟩
  obtain ⟨T, x1, y1, rfl, hT, rfl, hx, hy⟩ := y
  rw [List.getElem?_map] at h
  cases hz : (ds.zip es)[i]? with
  | none => rw [hz] at h; cases h
  | some q =>
    rw [hz] at h
    simp at h
    have hz' := List.getElem?_zip_eq_some.mp hz
    obtain ⟨v1, h1, h2⟩ := r.get hz'.1
    obtain ⟨v2, h3, h4⟩ := r'.get hz'.2
    have hx' : vs[i]? = some x1 := hx
    have hy' : us[i]? = some y1 := hy
    rw [hx'] at h1
    rw [hy'] at h3
    cases h1
    cases h3
    obtain ⟨m', l'⟩ := m.new (o := .tup [x1, y1]) hT
    refine ⟨_, l', m', ?_, Ex.new hT⟩
    rw [← h]
    exact .tup (st_of upd_same) (.cons (h2.mono (l.trans l')) (.cons (h4.mono (l.trans l')) .nil)) (.inr upd_same)
theorem walk_zipT {K : PySem.W.Frag} {a b : Addr} {xs ys : List V} : Walk (RZ.ItzT K a b) (min xs.length ys.length) (fun H => SqT K H a xs ∧ SqT K H b ys) (YPair (fun i => xs[i]?) (fun i => ys[i]?)) := by
  refine ⟨fun i _ hi q => ?_, fun _ q => ⟨xs, ys, q.1, q.2, by omega⟩, fun i H v H' _ q y => ?_⟩
  · have h1 : i < xs.length := by omega
    have h2 : i < ys.length := by omega
    exact ⟨xs, ys, xs[i], ys[i], q.1, q.2, by simp [h1], by simp [h2]⟩
  · obtain ⟨T, x, z, h1, h2, h3, h4, h5⟩ := y
    exact ⟨T, x, z, h1, h2, h3, h4 xs q.1, h5 ys q.2⟩
theorem di_zip {e2 : Expr} {p0 pos tpos : Pos} {elts : List Expr} {kk : Nat} (hg : Gl X "zip") (hm : X.mg "zip" = none) (ha : DA X W [e, e2] fa)
    (hs : starEach [e, e2] X.env = (false, eval e X.env) :: starEach [e2] X.env := by rfl) (hpl : (backTo pos (starEach [e2] X.env)).any (·.1) = false := by rfl) : DI X W (.Tuple elts kk tpos) (.Call (.Name "zip" p0) [e, e2] [] pos) (xZip fa) :=
  PI.imp (RZ.pi_zipA hg hm ha hs hpl) fun σ H Q z => by
    obtain ⟨η, F, B, ρ, M, er, m, w⟩ := z
    refine ⟨η, F, B, ρ, M, er, m, w.bind fun ds M1 B1 ρ1 H1 l1 m1 w1 vs rv => ?_⟩
    split at w1
    · next xs ys =>
      cases rv with
      | cons r rr =>
        cases rr with
        | cons r' rr =>
          cases rr
          cases r with
          | lst e1 q1 =>
            cases r' with
            | lst e2 q2 =>
              exact ⟨_, _, _, _, rfl, .inl ⟨sq_of (m1.ex _ _ e1), sq_of (m1.ex _ _ e2), Wp.ret w1 m1 _ (walk_pair (walk_zip rfl) (fun H hH => ⟨sq_of (hH _ _ e1), sq_of (hH _ _ e2)⟩) q1 q2)⟩⟩
    · next xs ys =>
      cases rv with
      | cons r rr =>
        cases rr with
        | cons r' rr =>
          cases rr
          cases r with
          | tup e1 q1 =>
            cases r' with
            | tup e2 q2 =>
              exact ⟨_, _, _, _, rfl, .inr ⟨ex_t m1.ex e1, ex_t m1.ex e2, Wp.ret w1 m1 _ (walk_pair walk_zipT (fun H hH => ⟨ex_t hH e1, ex_t hH e2⟩) q1 q2)⟩⟩
    · exact w1.elim

/-! ### for -/
def xForL (g : XG) (body : XS) : List D → Dv → Mem → R Fl
  | [], η, M => .ok (.nx η) M
  | d :: ds, η, M => (g d η M).bind fun η' M1 => (body η' M1).bind fun fl M2 => match fl with
    | .nx η2 => xForL g body ds η2 M2
    | .ct η2 => xForL g body ds η2 M2
    | .bk η2 => .ok (.nx η2) M2
    | .rt v => .ok (.rt v) M2
def xFor (i : XI) (g : XG) (body : XS) : XS := fun η M => (i η M).bind fun ds M1 => xForL g body ds η M1
theorem ds_for {body : List Stmt} {fi : XI} {ts : List Nat} {gt : XG} {s : XS} (hp : PassesOwn (model X.prog X.w) X.A X.env X.xe) (hc : X.calm = true) (hi : DI X W tg it fi) (hg : DG X W tg ts gt) (hb : DSs X W body s)
    (hs : ∀ x, foldedSetIterable it X.env x = pure x := by intro _; rfl) : DS X W (.For tg it body [] pos) (xFor fi gt s) := PS.imp (ps_for hp hc hi hg hb hs) fun E σ H z => by
  obtain ⟨η, F, B, ρ, M, er, m, w⟩ := z
  refine ⟨η, F, B, ρ, M, er, m, w.bind fun ds M1 B1 ρ1 H1 l1 m1 w1 J wd => ?_⟩
  obtain ⟨G, Y, wk, hG, hY⟩ := wd.w
  refine for_it wk (fun i σ' H' => ∃ η' B' ρ' M', ER X.K B' ρ' η' σ' ∧ MR X.K F B' ρ' M' H' ∧ Le B1 ρ1 B' ρ' ∧ Wp X.K X.mg F B' ρ' (wAll W) (FlP X.K E) (xForL gt s (ds.drop i) η' M')) ⟨η, B1, ρ1, M1, er.mono l1, m1, Le.refl _ _, by simpa using w1⟩
    (fun i σ' H' _ ⟨η', B', ρ', M', _, m', l', _⟩ => hG H' (l'.1.trans m'.ex)) (fun i x σ' H' H2 hi ⟨η', B', ρ', M', e', m', l', w'⟩ y => ?_) (fun σ' H' ⟨η', B', ρ', M', e', m', l', w'⟩ => ?_)
  · have hd : ds[i]? = some ds[i] := List.getElem?_eq_getElem hi
    rw [List.drop_eq_getElem_cons hi] at w'
    obtain ⟨B2, l2, m2, r2, _⟩ := hY i ds[i] hd F B' ρ' M' H' x H2 l' m' y
    have w2 : Wp X.K X.mg F B2 ρ' (wAll W) (FlP X.K E) ((gt ds[i] η' M').bind _) := w'.mono l2
    refine ⟨ds[i], η', F, B2, ρ', M', r2, e'.mono l2, m2, w2.bind fun η3 M3 B3 ρ3 H3 l3 m3 w3 σ3 e3 _ => ?_⟩
    refine ⟨η3, F, B3, ρ3, M3, e3, m3, w3.bind fun fl M4 B4 ρ4 H4 l4 m4 w4 => ?_⟩
    have lz : Le B1 ρ1 B4 ρ4 := ((l'.trans l2).trans l3).trans l4
    cases fl with
    | nx η4 => exact fun σ4 e4 => ⟨η4, B4, ρ4, M4, e4, m4, lz, w4⟩
    | ct η4 => exact fun σ4 e4 => ⟨η4, B4, ρ4, M4, e4, m4, lz, w4⟩
    | bk η4 => exact fun σ4 e4 => Wp.ret (P := FlP X.K E) w4 m4 σ4 e4
    | rt v => exact Wp.ret (P := FlP X.K E) w4 m4
  · rw [List.drop_length] at w'
    exact Wp.ret (P := FlP X.K E) w' m' σ' e'

/-! ### a list made by a comprehension -/
def xLcL (g : XG) (t : XT) (f : XE) : List D → Dv → Mem → R (List D)
  | [], _, M => .ok [] M
  | d :: ds, η, M => (g d η M).calm.bind fun η' M1 => (t η' M1).calm.bind fun b M2 => if b = true then (f η' M2).calm.bind fun y M3 => (xLcL g t f ds η M3).bind fun r M4 => .ok (y :: r) M4 else xLcL g t f ds η M2
/-- what is made, and whether it may change -/
def frozenL (ds : List D) (M : Mem) : R D := .ok (.lst ds) M
def movingL (ds : List D) (M : Mem) : R D := .ok (.ptr M.length) (M ++ [.lst ds])
def xLc (fin : List D → Mem → R D) (i : XI) (g : XG) (t : XT) (f : XE) (vs : List Nat) : XE := fun η M => (i η M).bind fun ds M1 => if ds.length ≤ 100000 then (xLcL g t f ds (wipeD η vs) M1).bind fin else .no
def xYes : XT := fun _ M => .ok true M
theorem dts_nil : DTs X W [] xYes := PTs.imp pts_nil fun σ H Q z => by
  obtain ⟨η, F, B, ρ, M, er, m, w⟩ := z
  exact Wp.ret (P := fun b _ _ H' => Q b H') w m
theorem dts_one (h : DT X W c p) : DTs X W [c] p := PTs.imp (pts_one h) fun σ H Q z => z
theorem calm_wp {α : Type} {K : PySem.W.Frag} {mg : Str → Option Value} {F B : Hp} {ρ : List Addr} {V V' : XK} {P : α → Hp → List Addr → Hp → Prop} {r : R α} (h : Wp K mg F B ρ V P r.calm) : Wp K mg F B ρ V' P r := by
  cases r with
  | ok a M => exact h
  | ex e M => exact h.elim
  | no => exact h
/-- what follows a new list -/
def FinOk (fin : List D → Mem → R D) : Prop := ∀ (K : PySem.W.Frag) (mg : Str → Option Value) (W : XK) (F B H : Hp) (ρ : List Addr) (M : Mem) (ds : List D) (vs : List V) (Q : VK), MR K F B ρ M H → Rps K B ρ ds vs → Wp K mg F B ρ W (fun d B' ρ' H' => ∀ v, Rp K B' ρ' d v → Q v H') (fin ds M) →
  ∀ p, H p = none → Q (.ref p) (upd H p (.lst vs))
theorem fin_frozen : FinOk frozenL := fun K mg W F B H ρ M ds vs Q m r w => (done_of w).newL m r
theorem fin_moving : FinOk movingL := fun K mg W F B H ρ M ds vs Q m r w => putM m r w
theorem xLcL_len (gt : XG) (t : XT) (f : XE) : ∀ (ds : List D) (η : Dv) (M M' : Mem) (r : List D), xLcL gt t f ds η M = .ok r M' → r.length ≤ ds.length := by
  intro ds
  induction ds with
  | nil => intro η M M' r h; cases h; simp
  | cons d ds ih =>
    intro η M M' r h
    unfold xLcL at h
    cases h1 : gt d η M with
    | ok η1 M1 =>
      simp only [h1, R.calm_ok, R.bind_ok] at h
      cases h2 : t η1 M1 with
      | ok b M2 =>
        simp only [h2, R.calm_ok, R.bind_ok] at h
        cases b with
        | true =>
          simp only [if_true] at h
          cases h3 : f η1 M2 with
          | ok y M3 =>
            simp only [h3, R.calm_ok, R.bind_ok] at h
            cases h4 : xLcL gt t f ds η M3 with
            | ok q M4 =>
              simp only [h4, R.bind_ok] at h
              cases h
              have := ih _ _ _ _ h4
              simp; omega
            | ex e M4 => simp [h4] at h
            | no => simp [h4] at h
          | ex e M4 => simp [h3, R.calm] at h
          | no => simp [h3, R.calm] at h
        | false =>
          simp at h
          have := ih _ _ _ _ h
          simp; omega
      | ex e M4 => simp [h2, R.calm] at h
      | no => simp [h2, R.calm] at h
    | ex e M4 => simp [h1, R.calm] at h
    | no => simp [h1, R.calm] at h
theorem drop_frame {K : PySem.W.Frag} {F B H : Hp} {ρ : List Addr} {M : Mem} {p : Addr} {u : HO} (m : MR K (upd F p u) B ρ M H) (hF : F p = none) (o : HO) : MR K F B ρ M (upd H p o) ∧ B p = none ∧ p ∉ ρ := by
  obtain ⟨hB, hρ⟩ := m.dj p u upd_same
  refine ⟨⟨fun a v e => ?_, fun a v e => ?_, fun a v e => ?_, m.len, m.nd, fun n ob h => ?_, fun a ys e => ?_⟩, hB, hρ⟩
  · rw [upd_ne (ne_of_none e hB)]
    exact m.ex a v e
  · have na : a ≠ p := ne_of_none e hF
    rw [upd_ne na]
    exact m.fr a v (by rw [upd_ne na]; exact e)
  · have na : a ≠ p := ne_of_none e hF
    exact m.dj a v (by rw [upd_ne na]; exact e)
  · obtain ⟨a, ha, hb, r⟩ := m.ob n ob h
    have na : a ≠ p := fun z => hρ (z ▸ List.mem_of_getElem? ha)
    exact ⟨a, ha, hb, r.mono (Le.refl _ _) fun w q => by rw [upd_ne na]; exact q⟩
  · have na : a ≠ p := ne_of_none e hF
    exact m.nt a ys (by rw [upd_ne na]; exact e)
theorem add_frame {K : PySem.W.Frag} {F B H : Hp} {ρ : List Addr} {M : Mem} {p : Addr} {u : HO} (m : MR K F B ρ M H) (hp : H p = some u) (hB : B p = none) (hρ : p ∉ ρ) (hu : ∀ ys, u ≠ .tup ys := by intro ys z; cases z) : MR K (upd F p u) B ρ M H := by
  refine ⟨m.ex, fun a v e => ?_, fun a v e => ?_, m.len, m.nd, m.ob, fun a ys e => ?_⟩
  · by_cases q : a = p
    · subst q
      rw [upd_same] at e
      cases e
      exact hp
    · rw [upd_ne q] at e
      exact m.fr a v e
  · by_cases q : a = p
    · subst q
      exact ⟨hB, hρ⟩
    · rw [upd_ne q] at e
      exact m.dj a v e
  · by_cases q : a = p
    · subst q
      rw [upd_same] at e
      exact hu ys (Option.some.inj e)
    · rw [upd_ne q] at e
      exact m.nt a ys e
theorem MR.less {K : PySem.W.Frag} {F B H : Hp} {ρ : List Addr} {M : Mem} {p : Addr} {u : HO} (mm : MR K (upd F p u) B ρ M H) (hF : F p = none) : MR K F B ρ M H := by
  refine ⟨mm.ex, fun a o e => mm.fr a o ?_, fun a o e => mm.dj a o ?_, mm.len, mm.nd, mm.ob, fun a ys e => mm.nt a ys ?_⟩
  · rw [upd_ne (ne_of_none e hF)]; exact e
  · rw [upd_ne (ne_of_none e hF)]; exact e
  · rw [upd_ne (ne_of_none e hF)]; exact e
/-- the heap without a thing that nobody knows -/
theorem MR.hide {K : PySem.W.Frag} {F B H : Hp} {ρ : List Addr} {M : Mem} {p : Addr} (m' : MR K F B ρ M H) (hF : F p = none) (hB' : B p = none) (hρ' : p ∉ ρ) : MR K F B ρ M (fun q => if q = p then none else H q) := by
  refine ⟨fun a v e => ?_, fun a v e => ?_, m'.dj, m'.len, m'.nd, fun n ob h => ?_, m'.nt⟩
  · rw [if_neg (ne_of_none e hB')]; exact m'.ex a v e
  · rw [if_neg (ne_of_none e hF)]; exact m'.fr a v e
  · obtain ⟨a, ha, hb, r⟩ := m'.ob n ob h
    have na : a ≠ p := fun z => hρ' (z ▸ List.mem_of_getElem? ha)
    exact ⟨a, ha, hb, r.mono (Le.refl _ _) fun w q => by rw [if_neg na]; exact q⟩
theorem hide_upd {H : Hp} {p : Addr} {o : HO} (h : H p = some o) : upd (fun q => if q = p then none else H q) p o = H := by
  funext q
  by_cases hq : q = p
  · subst hq; rw [upd_same, h]
  · rw [upd_ne hq, if_neg hq]
theorem de_lc {elt : Expr} {ifs : List Expr} {scope : Scope} {own : List (Str × Nat)} {fi : XI} {ts : List Nat} {gt : XG} {t : XT} {W' : WX} {fin : List D → Mem → R D} (hf : FinOk fin) (hc : X.calm = true) (hN : X.N.Nodup) (hi : DI X W tg it fi) (ok : BlkOk X.N X.env.scope scope own)
    (hg : ∀ (s : Shared) (H : Hp) (C : Addr) (cl : List (Str × Addr)) (fp : List Addr), DG (X.blk s H scope (compEnvC scope cl C X.env) fp) W' tg ts gt) (ht : ∀ (s : Shared) (H : Hp) (C : Addr) (cl : List (Str × Addr)) (fp : List Addr), DTs (X.blk s H scope (compEnvC scope cl C X.env) fp) W' ifs t)
    (he : ∀ (s : Shared) (H : Hp) (C : Addr) (cl : List (Str × Addr)) (fp : List Addr), DE (X.blk s H scope (compEnvC scope cl C X.env) fp) W' elt f) (hts : ∀ i ∈ ts, i ∈ own.map (·.2)) (hs : ∀ x, foldedSetIterable it X.env x = pure x := by intro _; rfl) :
    DE X W (.ListComp elt [⟨tg, it, ifs, 0⟩] scope pos) (xLc fin fi gt t f (own.map (·.2))) := PE.imp (pe_lc (g := tG X.K X.mg W' ts gt) (tt := tT X.K X.mg W' t) (te := tE X.K X.mg W' f) hc hN hi ok hg ht he hs) fun σ H Q z => lcGo hf hts σ H Q z
where
  lcGo {own : List (Str × Nat)} {fi : XI} {ts : List Nat} {gt : XG} {t : XT} {W' : WX} {fin : List D → Mem → R D} {f : XE} (hf : FinOk fin) (hts : ∀ i ∈ ts, i ∈ own.map (·.2)) (σ : L2.St) (H : Hp) (Q : VK) (z : tE X.K X.mg W (xLc fin fi gt t f (own.map (·.2))) σ H Q) :
      tLc (tI X.K X.mg W fi) (tG X.K X.mg W' ts gt) (tT X.K X.mg W' t) (tE X.K X.mg W' f) (own.map (·.2)) σ H Q := by
    obtain ⟨η, F, B, ρ, M, er, m, w⟩ := z
    refine ⟨η, F, B, ρ, M, er, m, w.bind fun ds M1 B1 ρ1 H1 l1 m1 w1 J wd => fun p hp => ?_⟩
    split at w1
    · next hlen =>
      obtain ⟨G, Y, wk, hG, hY⟩ := wd.w
      have hFp : F p = none := fresh_back m1.fr hp
      refine lc_it wk (fun i H' => ∃ B' ρ' M' acc dacc, MR X.K F B' ρ' M' H' ∧ Le B1 ρ1 B' ρ' ∧ H' p = some (.lst acc) ∧ B' p = none ∧ p ∉ ρ' ∧ Rps X.K B' ρ' dacc acc ∧ dacc.length ≤ i ∧
          Wp X.K X.mg F B' ρ' (wAt W σ) (fun d B' ρ' H' => ∀ v, Rp X.K B' ρ' d v → Q v H') ((xLcL gt t f (ds.drop i) (wipeD η (own.map (·.2))) M').bind fun r M2 => fin (dacc ++ r) M2))
        ⟨B1, ρ1, M1, [], [], m1.more (Ex.new hp), Le.refl _ _, upd_same, fresh_back m1.ex hp, m1.notin hp, .nil, Nat.le_refl _, by simpa using w1⟩
        (fun i H' _ ⟨B', ρ', M', _, _, m', l', _⟩ => hG H' (l'.1.trans m'.ex)) (fun i x H' H2 hi ⟨B', ρ', M', acc, dacc, m', l', hp', hB', hρ', ra, hla, w'⟩ y => ?_) (fun H' ⟨B', ρ', M', acc, dacc, m', l', hp', hB', hρ', ra, hla, w'⟩ => ?_)
      · have hd : ds[i]? = some ds[i] := List.getElem?_eq_getElem hi
        rw [List.drop_eq_getElem_cons hi] at w'
        have m'' : MR X.K (upd F p (.lst acc)) B' ρ' M' H' := add_frame m' hp' hB' hρ'
        obtain ⟨B2, l2, m2, r2, _⟩ := hY i ds[i] hd _ B' ρ' M' H' x H2 l' m'' y
        unfold xLcL at w'
        have e' : ER X.K B2 ρ' (wipeD η (own.map (·.2))) (L2.wipe σ (own.map (·.2))) := (er.mono ((l1.trans l'))).mono l2 |>.wipe _
        cases h1 : gt ds[i] (wipeD η (own.map (·.2))) M' with
        | ex e0 M0 => rw [h1] at w'; exact w'.elim
        | no => rw [h1] at w'; exact w'.elim
        | ok η3 M3 =>
        simp only [h1, R.calm_ok, R.bind_ok] at w'
        refine ⟨ds[i], _, _, B2, ρ', M', r2, e', m2, ?_⟩
        rw [h1]
        intro B3 ρ3 H3 l3 m3 σ3 e3 off3
        refine ⟨wipe_off off3 hts ▸ ?_, ?_⟩
        · have idem : ∀ (vs : List Nat) (τ : L2.St), L2.wipe (L2.wipe τ vs) vs = L2.wipe τ vs := fun vs τ => by
            apply wipe_off (ts := vs) (σ := τ) (σ' := L2.wipe τ vs)
            · refine ⟨L2.wipe_length _ _, fun j hj => ?_⟩
              exact L2.wipe_out hj
            · intro t ht; exact ht
          exact idem _ _
        · cases h2 : t η3 M3 with
          | ex e0 M0 => rw [h2] at w'; exact w'.elim
          | no => rw [h2] at w'; exact w'.elim
          | ok bb M4 =>
          simp only [h2, R.calm_ok, R.bind_ok] at w'
          refine ⟨η3, _, B3, ρ3, M3, e3, m3, ?_⟩
          rw [h2]
          intro B4 ρ4 H4 l4 m4
          have lz : Le B' ρ' B4 ρ4 := (l2.trans l3).trans l4
          cases bb with
          | false =>
            simp only [Bool.false_eq_true, if_false] at w' ⊢
            have hp4 : H4 p = some (.lst acc) := m4.fr p _ upd_same
            obtain ⟨hB4, hρ4⟩ := m4.dj p _ upd_same
            have m5 := (drop_frame m4 hFp (.lst acc)).1
            have same : upd H4 p (.lst acc) = H4 := by
              funext q
              by_cases hq : q = p
              · subst hq; rw [upd_same, hp4]
              · rw [upd_ne hq]
            rw [same] at m5
            exact ⟨B4, ρ4, M4, acc, dacc, m5, l'.trans lz, hp4, hB4, hρ4, ra.mono lz, by omega, w'.mono lz⟩
          | true =>
            simp only [if_true] at w' ⊢
            cases h3 : f η3 M4 with
            | ex e0 M0 => rw [h3] at w'; exact w'.elim
            | no => rw [h3] at w'; exact w'.elim
            | ok yy M5 =>
            simp only [h3, R.calm_ok, R.bind_ok] at w'
            refine ⟨η3, _, B4, ρ4, M4, e3.mono l4, m4, ?_⟩
            rw [h3]
            intro B5 ρ5 H5 l5 m5 v5 r5
            have lz5 : Le B' ρ' B5 ρ5 := lz.trans l5
            have hp5 : H5 p = some (.lst acc) := m5.fr p _ upd_same
            obtain ⟨m6, hB6, hρ6⟩ := drop_frame m5 hFp (.lst (acc ++ [v5]))
            have hl := ra.len
            have hi' : i < 100000 := by omega
            refine ⟨acc, hp5, by rw [← hl]; exact sz_lt (by omega), B5, ρ5, M5, acc ++ [v5], dacc ++ [yy], m6, l'.trans lz5, upd_same, hB6, hρ6, (ra.mono lz5).snoc r5, by simp; omega, ?_⟩
            have w5 := w'.mono lz5
            cases h4 : xLcL gt t f (ds.drop (i + 1)) (wipeD η (own.map (·.2))) M5 with
            | ex e0 M0 => rw [h4] at w5; exact w5
            | no => rw [h4] at w5; exact w5.elim
            | ok r6 M6 =>
              simp only [h4, R.bind_ok] at w5
              show Wp X.K X.mg F B5 ρ5 (wAt W σ) _ (fin (dacc ++ [yy] ++ r6) M6)
              rw [List.append_assoc]
              exact w5
      · rw [List.drop_length] at w'
        have w2 : Wp X.K X.mg F B' ρ' (wAt W σ) (fun d B' ρ' H' => ∀ v, Rp X.K B' ρ' d v → Q v H') (fin (dacc ++ []) M') := w'
        rw [List.append_nil] at w2
        -- the heap without the new list
        have m0 : MR X.K F B' ρ' M' (fun q => if q = p then none else H' q) := by
          refine ⟨fun a v e => ?_, fun a v e => ?_, m'.dj, m'.len, m'.nd, fun n ob h => ?_, m'.nt⟩
          · rw [if_neg (ne_of_none e hB')]; exact m'.ex a v e
          · rw [if_neg (ne_of_none e hFp)]; exact m'.fr a v e
          · obtain ⟨a, ha, hb, r⟩ := m'.ob n ob h
            have na : a ≠ p := fun z => hρ' (z ▸ List.mem_of_getElem? ha)
            exact ⟨a, ha, hb, r.mono (Le.refl _ _) fun w q => by rw [if_neg na]; exact q⟩
        have hq := hf X.K X.mg (wAt W σ) F B' _ ρ' M' dacc acc Q m0 ra w2 p (if_pos rfl)
        have same : upd (fun q => if q = p then none else H' q) p (.lst acc) = H' := by
          funext q
          by_cases hq : q = p
          · subst hq; rw [upd_same, hp']
          · rw [upd_ne hq, if_neg hq]
        rw [same] at hq
        exact hq
    · exact w1.elim
end
end Dn

/-! x[::-1] of lists, tuples, texts -/
namespace Dn
open PySem PySem.Spec PyProof.Rows L2 Evl
section
variable {prog : Program} {w : World} {A : Around} {E : Value → Shared → Prop} {s : Shared}
theorem sliceApplied_rev {sl : Addr} {vl vu vs : Value} {n : Nat} {Q : Int × Int × Nat → Shared → Prop} (hs : s.heap.IsSliceOf sl vl vu vs) (pl : IsPart vl none) (pu : IsPart vu none) (ps : IsPart vs (some (-1)))
    (h : Q ((n : Int) - 1, -1, n) s) : wpAny (model prog w) A (Builtin.Slice.sliceApplied (.ref sl) (pure (n : Int))) Q E s := by
  obtain ⟨os, hos, hcs, hds⟩ := id hs
  unfold Builtin.Slice.sliceApplied Builtin.Slice.sliceFields
  refine wpAny_bind (wpAny_bind (wpAny_field hos hds (x := vl) rfl (wpAny_bind (wpAny_field hos hds (x := vu) rfl (wpAny_bind (wpAny_field hos hds (x := vs) rfl (wpAny_pure ?_)))))))
  refine wpAny_bind (HT.slicePart_ ps ?_)
  show wpAny _ _ (if ((-1 : Int) == 0) = true then _ else _) _ _ s
  rw [if_neg (by decide)]
  refine wpAny_bind (HT.slicePart_ pl (wpAny_bind (HT.slicePart_ pu (wpAny_bind (wpAny_pure ?_)))))
  have e1 : Builtin.Slice.sliceAdjust none none (-1) (n : Int) = ((n : Int) - 1, -1) := by
    unfold Builtin.Slice.sliceAdjust
    simp
  have e2 : Builtin.Slice.slicePlaces ((n : Int) - 1) (-1) (-1) = n := by
    unfold Builtin.Slice.slicePlaces
    have h1 : ¬ ((-1 : Int) > 0) := by omega
    simp only [h1, if_false]
    have e : (- -1 : Int) = 1 := by decide
    rw [e, Int.ediv_one]
    split <;> omega
  show wpAny _ _ (match Builtin.Slice.sliceAdjust none none (-1) (n : Int) with | (lo, hi) => pure (lo, (-1 : Int), Builtin.Slice.slicePlaces lo hi (-1))) _ _ s
  rw [e1]
  show wpAny _ _ (pure ((n : Int) - 1, (-1 : Int), Builtin.Slice.slicePlaces ((n : Int) - 1) (-1) (-1))) _ _ s
  rw [e2]
  exact wpAny_pure h
theorem pick_rev (xs : Array Value) : ((List.range xs.size).filterMap fun (k : Nat) => xs[((xs.size : Int) - 1 + (k : Int) * -1).toNat]?).toArray = xs.toList.reverse.toArray := by
  apply congrArg List.toArray
  have e : (List.range xs.size).filterMap (fun (k : Nat) => xs[((xs.size : Int) - 1 + (k : Int) * -1).toNat]?) = (List.range xs.size).filterMap (fun (k : Nat) => xs[xs.size - 1 - k]?) := by
    have gen : ∀ (l : List Nat) (f g : Nat → Option Value), (∀ k ∈ l, f k = g k) → l.filterMap f = l.filterMap g := by
      intro l f g
      induction l with
      | nil => intro _; rfl
      | cons a l ih =>
        intro h
        rw [List.filterMap_cons, List.filterMap_cons, h a (List.mem_cons_self ..), ih fun k hk => h k (List.mem_cons_of_mem _ hk)]
    refine gen _ _ _ fun k hk => ?_
    have hk' : k < xs.size := List.mem_range.mp hk
    have : ((xs.size : Int) - 1 + (k : Int) * -1).toNat = xs.size - 1 - k := by omega
    rw [this]
  rw [e]
  have e2 : (fun (k : Nat) => xs[xs.size - 1 - k]?) = (fun i => xs[i]?) ∘ (fun k => xs.size - 1 - k) := rfl
  rw [e2, ← List.filterMap_map, PySem.W.krv_range, List.filterMap_reverse, PySem.W.krv_all]
theorem getItem_tuple_rev {t sl : Addr} {items : Array Value} {vl vu vs : Value} {Q : Value → Shared → Prop} (ht : IsTup s.heap t items) (hs : s.heap.IsSliceOf sl vl vu vs) (pl : IsPart vl none) (pu : IsPart vu none) (ps : IsPart vs (some (-1)))
    (h : Q (.ref s.heap.objs.size) { s with heap := s.heap.push { cls := .type "tuple", data := .seq items.toList.reverse.toArray } })
    (hsz : items.size ≤ sizeLine) : wpAny (model prog w) A (getItem (.ref t) (.ref sl)) Q E s := by
  have htake : sizeOk (.seq items.toList.reverse.toArray) := by
    show items.toList.reverse.toArray.size ≤ sizeLine
    rw [List.size_toArray, List.length_reverse, Array.length_toList]
    exact hsz
  obtain ⟨os, hos, hcs, hds⟩ := id hs
  have hTs : s.TypeIs (.ref sl) "slice" := ⟨os, hos, hcs⟩
  unfold getItem
  try with_reducible refine wpAny_holding ?_
  first | refine wpAny_bind (wpAny_pure ?_) | skip
  refine wpAny_bind (wpAny_sequenceKey ht.typeIs (by decide) ?_)
  refine wpAny_bind (wpAny_callSpecial?_slot (name := Str.ofString "__getitem__") ht.typeIs PyProof.Rows.slot_tuple_getitem
    (wpAny_call_entry PyProof.Rows.slot_tuple_getitem ht.typeIs PyProof.Rows.entry_tuple_getitem ?_ (PyProof.Rows.args_tuple_getitem _ _)))
  show wpAny _ _ (Builtin.Tuple.tupleItemsOf (.ref t) >>= _) _ _ s
  refine wpAny_bind (PyProof.Rows.tupleItemsOf_ ht ?_)
  refine wpAny_bind (wpAny_typeOf hTs ?_)
  rw [if_pos (by decide)]
  refine wpAny_bind (sliceApplied_rev hs pl pu ps ?_)
  have hno : ¬ ((((items.size : Int) - 1) == 0 && (-1 : Int) == 1 && items.size == items.size) = true) := by
    intro q
    rw [Bool.and_eq_true, Bool.and_eq_true] at q
    exact absurd q.1.2 (by decide)
  show wpAny _ _ (if (((items.size : Int) - 1) == 0 && (-1 : Int) == 1 && items.size == items.size) = true then _ else _) _ _ s
  rw [if_neg hno, pick_rev]
  first
    | exact wpAny_bind (m := Builtin.Tuple.tupleExact _) (wpAny_newObj_type (wpAny_pure ⟨_, rfl, wpAny_pure h⟩) htake)
    | exact wpAny_bind (m := Builtin.Tuple.tupleExact _) (wpAny_newObj_type (wpAny_bind (wpAny_pure (wpAny_pure ⟨_, rfl, wpAny_pure h⟩))) htake)
    | exact wpAny_bind (wpAny_bind (m := Builtin.Tuple.tupleExact _) (wpAny_newObj_type (wpAny_pure (wpAny_pure ⟨_, rfl, wpAny_pure h⟩)) htake))
    | exact wpAny_bind (wpAny_bind (m := Builtin.Tuple.tupleExact _) (wpAny_newObj_type (wpAny_pure ⟨_, rfl, wpAny_pure h⟩) htake))
end
section
variable {X : Cx} {W : WX}
def revS (z : Str) : Str := ⟨z.cps.toList.reverse.toArray⟩
def tRevA (K : PySem.W.Frag) (te : TE) : TE := fun σ H Q => te σ H fun x H1 => (∃ a xs, x = .ref a ∧ SqL K H1 a xs ∧ ∀ p, H1 p = none → Q (.ref p) (upd H1 p (.lst xs.reverse))) ∨
  (∃ a xs, x = .ref a ∧ SqT K H1 a xs ∧ ∀ p, H1 p = none → Q (.ref p) (upd H1 p (.tup xs.reverse))) ∨ (∃ z, x = .str z ∧ z.length ≤ sizeLine ∧ Q (.str (revS z)) H1)
theorem pe_revA {e : Expr} {te : TE} {k : Nat} {p1 p2 p3 pos : Pos} (he : PE X e te) : PE X (.Subscript e (.Slice none none (some (.UnaryOp .USub (.Constant (.int 1) k p1) p2)) p3) pos) (tRevA X.K te) := by
  refine ⟨fun pins s σ H Q I h => ?_⟩
  refine PyProof.Rows.Subscript_ (thn (he.run pins s σ H _ I h) fun v s1 ⟨x, H1, I1, r1, q1⟩ => ?_)
  have hst : PO X (some (.UnaryOp .USub (.Constant (.int 1) k p1) p2)) (tPart (tUn (rU fun i => .int (-i)) (tC (.int 1)))) := po_some (pe_un un_neg pe_int)
  refine wpAny_Slice (thn (po_none.run pins s1 σ H1 (fun o H2 => o = none ∧ H2 = H1) I1 ⟨rfl, rfl⟩) fun vl s2 ⟨l, H2, I2, pl, el, e2⟩ => ?_)
  subst el e2
  refine thn (po_none.run pins s2 σ H2 (fun o H3 => o = none ∧ H3 = H2) I2 ⟨rfl, rfl⟩) fun vu s3 ⟨u, H3, I3, pu, eu, e3⟩ => ?_
  subst eu e3
  refine thn (hst.run pins s3 σ H3 (fun o H4 => o = some (-1) ∧ H4 = H3) I3 ⟨1, rfl, -1, rfl, rfl, rfl⟩) fun vs s4 ⟨o, H4, I4, ps, eo, e4⟩ => ?_
  subst eo e4
  have I5 : Inv X pins σ H4 { s4 with heap := s4.heap.push { cls := .type "slice", data := .fields #[vl, vu, vs] } } := I4.kept (t' := s4.toks) fun b ob q => Heap.get?_push_of_some _ q
  rcases q1 with ⟨a, xs, ex, hx, q⟩ | ⟨a, xs, ex, hx, q⟩ | ⟨z, ex, hz, q⟩
  · subst ex
    cases r1
    obtain ⟨its, r, ht, hz⟩ := I5.list hx
    have hlen := r.length
    show wpAny (model X.prog X.w) X.A (subscriptTail e (.Slice none none (some (.UnaryOp .USub (.Constant (.int 1) k p1) p2)) p3) (.ref a) (.ref s4.heap.objs.size)) (EP X pins σ Q) X.xe { s4 with heap := s4.heap.push { cls := .type "slice", data := .fields #[vl, vu, vs] } }
    refine PyProof.Rows.tail_any (ops := [.ref a, .ref s4.heap.objs.size]) ht.isList.typeIs (PySem.slot_list_getitem.lookup) ?_ (by with_unfolding_all rfl)
    refine wpAny_getItem_list_slice ht.isList (Heap.IsSliceOf.new _ vl vu vs) pl pu ps (by decide) ?_ (by rw [List.size_toArray]; omega)
    rw [PySem.W.krv_pick]
    refine ⟨.ref _, _, I5.laid (t' := s4.toks) (o := .lst xs.reverse) (fun b ob q => Heap.get?_push_of_some _ q) (Nat.le_refl _) ?_, rfl, q _ (I5.hok.fresh (Nat.le_refl _))⟩
    exact ⟨by rw [List.length_reverse]; exact hz, _, 0, r.reverse, Heap.get?_push_size _ rfl⟩
  · subst ex
    cases r1
    obtain ⟨its, r, ht, hz⟩ := I5.tuple hx
    have hlen := r.length
    show wpAny (model X.prog X.w) X.A (subscriptTail e (.Slice none none (some (.UnaryOp .USub (.Constant (.int 1) k p1) p2)) p3) (.ref a) (.ref s4.heap.objs.size)) (EP X pins σ Q) X.xe { s4 with heap := s4.heap.push { cls := .type "slice", data := .fields #[vl, vu, vs] } }
    refine PyProof.Rows.tail_any (ops := [.ref a, .ref s4.heap.objs.size]) ht.typeIs (PyProof.Rows.slot_tuple_getitem.lookup) ?_ (by with_unfolding_all rfl)
    refine getItem_tuple_rev ht (Heap.IsSliceOf.new _ vl vu vs) pl pu ps ?_ (by rw [List.size_toArray]; omega)
    refine ⟨.ref _, _, I5.laid (t' := s4.toks) (o := .tup xs.reverse) (fun b ob q => Heap.get?_push_of_some _ q) (Nat.le_refl _) ?_, rfl, q _ (I5.hok.fresh (Nat.le_refl _))⟩
    exact ⟨by rw [List.length_reverse]; exact hz, _, r.reverse, IsTup.new _ _⟩
  · subst ex
    obtain ⟨t, rfl⟩ := r1
    obtain ⟨l, rfl, hl⟩ := IsPart.raw pl
    obtain ⟨u, rfl, hu⟩ := IsPart.raw pu
    obtain ⟨st, rfl, hst⟩ := IsPart.raw ps
    show wpAny (model X.prog X.w) X.A (subscriptTail e (.Slice none none (some (.UnaryOp .USub (.Constant (.int 1) k p1) p2)) p3) (.str z t) (.ref s4.heap.objs.size)) (EP X pins σ Q) X.xe { s4 with heap := s4.heap.push { cls := .type "slice", data := .fields #[_, _, _] } }
    refine PyProof.Rows.tail_any (ops := [.str z t, .ref s4.heap.objs.size]) (typeIs_str _ _ _) (PySem.F.slot_str_getitem.lookup) ?_ (by with_unfolding_all rfl)
    have hl' : l = none := by cases l <;> simp at hl <;> rfl
    have hu' : u = none := by cases u <;> simp at hu <;> rfl
    subst hl' hu'
    cases st with
    | none => simp at hst
    | some stv =>
      obtain ⟨si, sk⟩ := stv
      simp at hst
      subst hst
      refine wpAny_getItem_str_slice (l := none) (u := none) (st := some (-1, sk)) ⟨_, Heap.get?_push_size _ rfl, rfl, rfl⟩ rfl ?_
      have e1 : Builtin.Str.strSliceIndices none none (-1) z.length = (List.range z.length).map fun k => z.length - 1 - k := PyProof.Rows.picked_rev z.length
      have e2 : ((List.range z.length).map fun k => z.length - 1 - k).filterMap (fun i => z.cps[i]?) = z.cps.toList.reverse := by
        have ez : z.length = z.cps.size := rfl
        rw [ez, PySem.W.krv_range, List.filterMap_reverse, PySem.W.krv_all]
      show Made.post (if ((-1 : Int) == 1 && (Builtin.Str.strSliceIndices none none (-1) z.length).length == z.length) = true then Made.val (.str z t)
        else Made.str ⟨((Builtin.Str.strSliceIndices none none (-1) z.length).filterMap (z.cps[·]?)).toArray⟩) (EP X pins σ Q) _
      rw [if_neg (by intro q; rw [Bool.and_eq_true] at q; exact absurd q.1 (by decide)), e1, e2]
      refine ⟨?_, .str _, H4, I5.tok _, ⟨_, rfl⟩, q⟩
      show z.cps.toList.reverse.toArray.size ≤ sizeLine
      rw [List.size_toArray, List.length_reverse, Array.length_toList]
      exact hz
variable {e : Expr} {f : XE}
/-- turned about -/
def revD (M : Mem) (d : D) : Option D := match asL M d with
  | some ds => some (.lst ds.reverse)
  | none => match asT d with
    | some ds => some (.tup ds.reverse)
    | none => (asS d).bind fun s => if s.length ≤ sizeLine then some (.str (revS s)) else none
def xRev (f : XE) : XE := fun η M => (f η M).bind fun d M1 => R.of (revD M1 d) M1
theorem de_rev {k : Nat} {p1 p2 p3 pos : Pos} (he : DE X W e f) : DE X W (.Subscript e (.Slice none none (some (.UnaryOp .USub (.Constant (.int 1) k p1) p2)) p3) pos) (xRev f) := PE.imp (pe_revA he) fun σ H Q z => by
  obtain ⟨η, F, B, ρ, M, er, m, w⟩ := z
  refine ⟨η, F, B, ρ, M, er, m, w.bind fun d M1 B1 ρ1 H1 l1 m1 w1 v rv => ?_⟩
  obtain ⟨dz, hz, w2⟩ := w1.of
  unfold revD at hz
  split at hz
  · next ds hd =>
    obtain rfl := Option.some.inj hz
    obtain ⟨a, vs, rfl, hs, rs⟩ := asL_snd m1 rv hd
    exact .inl ⟨a, vs, rfl, hs, (done_of w2).newL m1 rs.rev⟩
  · split at hz
    · next ds hd =>
      obtain rfl := Option.some.inj hz
      obtain ⟨a, vs, rfl, hs, rs⟩ := asT_snd m1 rv hd
      exact .inr (.inl ⟨a, vs, rfl, hs, (done_of w2).newT m1 rs.rev⟩)
    · cases hs : asS d with
      | none => simp [hs] at hz
      | some s =>
        simp only [hs, Option.bind_some] at hz
        split at hz
        · next hl =>
          obtain rfl := Option.some.inj hz
          exact .inr (.inr ⟨s, asS_snd rv hs, hl, (done_of w2).same m1 (.str _)⟩)
        · cases hz
end
end Dn

namespace Dn
open PySem PyProof.Rows L2 Evl
/-! ### a def -/
abbrev Fn := List D → Mem → R D
def toVal : Fl → Mem → R D := fun fl M => match fl with
  | .rt d => .ok d M
  | .nx _ => .ok .non M
  | _ => .no
/-- n parameters, N slots -/
def callB (n N : Nat) (body : XS) : Fn := fun ds M => if ds.length = n then (body (ds.map some ++ List.replicate (N - n) none) M).bind toVal else .no
/-- the promise: it does what f says -/
def spF (K : PySem.W.Frag) (mg : Str → Option Value) (n : Nat) (f : Fn) : Sp := fun vs H Q _ => ∃ (U : XK) (ds : List D) (F B : Hp) (ρ : List Addr) (M : Mem), ds.length = n ∧ Rps K B ρ ds vs ∧ MR K F B ρ M H ∧ Wp K mg F B ρ U (fun d B' ρ' H' => ∀ v, Rp K B' ρ' d v → Q v H') (f ds M)
theorem er_start {K : PySem.W.Frag} {B : Hp} {ρ : List Addr} {N : List Str} {ds : List D} {vs : List V} (r : Rps K B ρ ds vs) : ER K B ρ (ds.map some ++ List.replicate (N.length - ds.length) none) (L2.start N vs) := by
  have hl := r.len
  refine ⟨by simp [L2.start, hl], fun i d h => ?_⟩
  by_cases hi : i < ds.length
  · rw [List.getElem?_append_left (by simpa using hi), List.getElem?_map] at h
    cases hd : ds[i]? with
    | none => rw [hd] at h; cases h
    | some d' =>
      rw [hd] at h
      simp at h
      subst h
      obtain ⟨v, h1, h2⟩ := r.get hd
      refine ⟨v, ?_, h2⟩
      unfold L2.start
      rw [List.getElem?_append_left (by simp; omega), List.getElem?_map, h1]
      rfl
  · rw [List.getElem?_append_right (by simpa using hi)] at h
    rw [List.getElem?_replicate] at h
    split at h <;> cases h
section
variable {P : Program} {w : World} {K : PySem.W.Frag} {mg : Str → Option Value} {base : Heap}
theorem fn_ok {x qual : Str} {st : Stmt} {f : Addr} {fd : FuncData} {N ps : List Str} {k : Nat} {body : XS} (F : Fun K x qual st f fd) (S : FnScope N ps (defScope st))
    (hb : ∀ (cdv : Value) (A : Around) (outer : List Env) (s : Shared) (H : Hp) (E : XK) (W : WX), Room k (A.deeper (envOfC qual (defScope st) s.heap.objs.size f cdv)) → DSs (cxOf CX0 P w K mg base N qual (defScope st) f cdv A outer s H E).nox W (defBody st) body) :
    FnOk P w K mg base CX0 (k + 1) f fd ps (spF K mg ps.length (callB ps.length N.length body)) := by
  refine F.ok S (fun vs H Q E h => ?_) (fun cdv A outer s H vs Q E hr h => ?_)
  · obtain ⟨_, ds, _, _, _, _, hl, r, _⟩ := h
    rw [← r.len]
    exact hl
  · obtain ⟨U, ds, Fr, B, ρ, M, hl, r, m, wp⟩ := h
    refine ⟨_, hb cdv A outer s H E (fun c d _ H => U c d H) hr, ?_⟩
    have e := er_start (N := N) r
    rw [hl] at e
    refine ⟨_, Fr, B, ρ, M, e, m, ?_⟩
    unfold callB at wp
    rw [if_pos hl] at wp
    exact wp.bind fun fl M1 B1 ρ1 H1 l1 m1 w1 => by
      cases fl with
      | nx η' => exact fun σ' _ => Wp.ret w1 m1 _ .non
      | rt d => exact fun v rv => Wp.ret w1 m1 v rv
      | bk η' => exact w1.elim
      | ct η' => exact w1.elim
end
/-- a def of the module, by its name: it keeps its promise -/
structure FnD (P : Program) (w : World) (K : PySem.W.Frag) (mg : Str → Option Value) (base : Heap) (k : Nat) (x : Str) (n : Nat) (f : Fn) : Prop where
  ex : ∃ (a : Addr) (fd : FuncData) (ps : List Str), FnOk P w K mg base CX0 k a fd ps (spF K mg n f) ∧ mg x = some (.ref a) ∧ PySem.W.keepIn K (.ref a) = true ∧ Binds K fd ps []
/-- the same, called with keywords ks behind n values; g puts them in the parameters' order -/
structure FnK (P : Program) (w : World) (K : PySem.W.Frag) (mg : Str → Option Value) (base : Heap) (k : Nat) (x : Str) (n : Nat) (ks : List Str) (g : {α : Type} → List α → List α → List α) (f : Fn) : Prop where
  ex : ∃ (a : Addr) (fd : FuncData) (ps : List Str), FnOk P w K mg base CX0 k a fd ps (spF K mg ps.length f) ∧ mg x = some (.ref a) ∧ PySem.W.keepIn K (.ref a) = true ∧ KBn K fd ps n ks (fun us ws => g us ws) (fun vs zs => g vs zs)
section
variable {X : Cx} {W : WX} {a b c e o : Expr} {es : List Expr} {fa fk : XA} {pos : Pos}
theorem passW {U : XK} : Passes CX0 X U := fun _ _ _ _ _ _ _ h => h.elim
def xFn (n : Nat) (f : Fn) (fa : XA) : XE := fun η M => (fa η M).bind fun ds M1 => if ds.length = n then f ds M1 else .no
theorem de_call {k n : Nat} {x : Str} {f : Fn} {p0 : Pos} (G : FnD X.prog X.w X.K X.mg X.base k x n f) (hr : Room k X.A) (hg : Gl X x) (ha : DA X W (e :: es) fa) (hdb : (x == ("__debug__" : Str)) = false := by decide)
    (he : starEach (e :: es) X.env = (false, eval e X.env) :: starEach es X.env := by rfl) (hpl : (backTo pos (starEach es X.env)).any (·.1) = false := by rfl) : DE X W (.Call (.Name x p0) (e :: es) [] pos) (xFn n f fa) := by
  obtain ⟨ad, fd, ps, F, hm, hk, hb⟩ := G.ex
  refine PE.imp (pe_call (E := E0) F hr hg hm hk hb .nil passW ha hdb he hpl) fun σ H Q z => ?_
  obtain ⟨η, Fr, B, ρ, M, er, m, w⟩ := z
  refine ⟨η, Fr, B, ρ, M, er, m, w.bind fun ds M1 B1 ρ1 H1 l1 m1 w1 vs rv => ?_⟩
  split at w1
  · next hl =>
    rw [List.append_nil]
    exact ⟨_, ds, Fr, B1, ρ1, M1, hl, rv, m1, w1⟩
  · exact w1.elim
/-! keywords -/
structure PKD (X : Cx) (W : WX) (kws : List Keyword) (f : XA) : Prop where
  pk : PK X kws (tA X.K X.mg W f)
theorem PK.imp {kws : List Keyword} {t t' : TA} (h : PK X kws t) (i : ∀ σ H Q, t' σ H Q → t σ H Q) : PK X kws t' := ⟨fun pos pins s σ H Q I q => h.run pos pins s σ H Q I (i σ H Q q)⟩
theorem dk_nil : PKD X W [] xNil := ⟨PK.imp pk_nil fun σ H Q z => by
  obtain ⟨η, F, B, ρ, M, e, m, w⟩ := z
  exact Wp.ret w m [] .nil⟩
theorem dk_cons {nm : Option Str} {kpos : Pos} {kws : List Keyword} {f : XE} {g : XA} (ha : DE X W e f) (hr : PKD X W kws g) : PKD X W (⟨nm, e, kpos⟩ :: kws) (xCons f g) := ⟨PK.imp (pk_cons ha hr.pk) fun σ H Q z => by
    obtain ⟨η, F, B, ρ, M, er, m, w⟩ := z
    refine ⟨η, F, B, ρ, M, er, m, w.bind fun d M1 B1 ρ1 H1 l1 m1 w1 x rx => ?_⟩
    exact ⟨η, F, B1, ρ1, M1, er.mono l1, m1, w1.bind fun ds M2 B2 ρ2 H2 l2 m2 w2 xs rxs => Wp.ret w2 m2 _ (.cons (rx.mono l2) rxs)⟩⟩
def xFnK (n k m : Nat) (g : {α : Type} → List α → List α → List α) (f : Fn) (fa fk : XA) : XE := fun η M => (fa η M).bind fun ds M1 => (fk η M1).bind fun es M2 => if ds.length = n ∧ es.length = k ∧ (g ds es).length = m then f (g ds es) M2 else .no
theorem rps_app_all {K : PySem.W.Frag} {B : Hp} {ρ : List Addr} {ds es : List D} {vs us : List V} (r : Rps K B ρ ds vs) (r' : Rps K B ρ es us) : Rps K B ρ (ds ++ es) (vs ++ us) := r.app r'
end
/-! ### sorted of texts -/
def leS (a b : Str) : Bool := !PySem.Spec.ltCps b.cps.toList a.cps.toList
def srt (l : List Str) : List Str := l.mergeSort leS
theorem ltCps_irr : ∀ a : List Nat, PySem.Spec.ltCps a a = false
  | [] => rfl
  | a :: r => by simp [PySem.Spec.ltCps, ltCps_irr r]
theorem ltCps_anti : ∀ a b : List Nat, PySem.Spec.ltCps a b = false → PySem.Spec.ltCps b a = false → a = b
  | [], [], _, _ => rfl
  | [], _ :: _, h, _ => by simp [PySem.Spec.ltCps] at h
  | _ :: _, [], _, h => by simp [PySem.Spec.ltCps] at h
  | a :: r, b :: t, h1, h2 => by
    simp [PySem.Spec.ltCps] at h1 h2
    have e : a = b := by omega
    subst e
    rw [ltCps_anti r t (h1.2 rfl) (h2.2 rfl)]
theorem ltCps_asymm : ∀ a b : List Nat, PySem.Spec.ltCps a b = true → PySem.Spec.ltCps b a = false
  | [], [], h => by simp [PySem.Spec.ltCps] at h
  | [], _ :: _, _ => rfl
  | _ :: _, [], h => by simp [PySem.Spec.ltCps] at h
  | a :: r, b :: t, h => by
    simp [PySem.Spec.ltCps] at h ⊢
    rcases h with h | ⟨e, h⟩
    · exact ⟨by omega, fun z => by omega⟩
    · subst e
      exact ⟨by omega, fun _ => ltCps_asymm r t h⟩
theorem ltCps_trans : ∀ a b c : List Nat, PySem.Spec.ltCps b a = false → PySem.Spec.ltCps c b = false → PySem.Spec.ltCps c a = false
  | [], _, [], _, _ => rfl
  | [], [], _ :: _, _, _ => rfl
  | [], _ :: _, _ :: _, _, _ => rfl
  | _ :: _, [], _, h, _ => by simp [PySem.Spec.ltCps] at h
  | _ :: _, _ :: _, [], _, h => by simp [PySem.Spec.ltCps] at h
  | a :: r, b :: t, c :: u, h1, h2 => by
    simp [PySem.Spec.ltCps] at h1 h2 ⊢
    refine ⟨by omega, fun e => ?_⟩
    have e1 : b = a := by omega
    have e2 : c = b := by omega
    exact ltCps_trans r t u (h1.2 e1) (h2.2 e2)
theorem leS_trans (a b c : Str) (h1 : leS a b = true) (h2 : leS b c = true) : leS a c = true := by
  unfold leS at *
  simp at *
  exact ltCps_trans _ _ _ h1 h2
theorem leS_total (a b : Str) : (leS a b || leS b a) = true := by
  unfold leS
  cases h : PySem.Spec.ltCps b.cps.toList a.cps.toList with
  | false => rfl
  | true => rw [ltCps_asymm _ _ h]; rfl
theorem leS_anti (a b : Str) (h1 : leS a b = true) (h2 : leS b a = true) : a = b := by
  unfold leS at *
  simp at *
  have := ltCps_anti _ _ h1 h2
  cases a; cases b
  simp at this
  rw [this]
theorem srt_uniq : ∀ (ys zs : List Str), ys.Perm zs → ys.Pairwise (fun a b => leS a b = true) → zs.Pairwise (fun a b => leS a b = true) → ys = zs
  | [], zs, p, _, _ => (List.nil_perm.mp p).symm
  | y :: ys, [], p, _, _ => by simpa using p.length_eq
  | y :: ys, z :: zs, p, h1, h2 => by
    have a1 := List.pairwise_cons.mp h1
    have a2 := List.pairwise_cons.mp h2
    have e : y = z := by
      have m1 : y ∈ z :: zs := p.subset (List.mem_cons_self ..)
      have m2 : z ∈ y :: ys := p.symm.subset (List.mem_cons_self ..)
      rcases List.mem_cons.mp m1 with e | m1
      · exact e
      · rcases List.mem_cons.mp m2 with e | m2
        · exact e.symm
        · exact leS_anti _ _ (a1.1 z m2) (a2.1 y m1)
    subst e
    rw [srt_uniq ys zs (List.Perm.cons_inv p) a1.2 a2.2]
theorem risingS_pw : ∀ (p : Str) (l : List Str), PyProof.Rows.risingS p l = true → (p :: l).Pairwise (fun a b => leS a b = true)
  | p, [], _ => by simp
  | p, x :: r, h => by
    unfold PyProof.Rows.risingS at h
    rw [Bool.and_eq_true] at h
    have ih := risingS_pw x r h.2
    refine List.pairwise_cons.mpr ⟨fun q hq => ?_, ih⟩
    have hpx : leS p x = true := h.1
    rcases List.mem_cons.mp hq with e | hq
    · rw [e]; exact hpx
    · exact leS_trans _ _ _ hpx ((List.pairwise_cons.mp ih).1 q hq)
theorem sorted_is {ys xs : List Str} (p : ys.Perm xs) (h : PyProof.Rows.sortedS ys = true) : ys = srt xs := by
  refine srt_uniq _ _ (p.trans (List.mergeSort_perm xs leS).symm) ?_ (List.pairwise_mergeSort (le := leS) leS_trans leS_total xs)
  cases ys with
  | nil => simp
  | cons y ys => exact risingS_pw y ys h
section
variable {X : Cx} {W : WX}
def bSorted : OpC := one fun M d => (asL M d).bind fun ds => (asSs ds).bind fun ss => if ss.length < 64 then some (.lst ((srt ss).map D.str)) else none
theorem cd_sorted : CallD X (.builtin "sorted") bSorted := by
  refine ⟨_, cr_sortedS, fun F B ρ M H xs ds dz Q m rx e k => ?_⟩
  obtain ⟨d, rfl, h⟩ := one_some e
  cases rx with
  | cons r rr =>
    cases rr
    cases h1 : asL M d with
    | none => simp [h1] at h
    | some es =>
      cases h2 : asSs es with
      | none => simp [h1, h2] at h
      | some ss =>
        simp only [h1, h2, Option.bind_some] at h
        split at h
        · next hl =>
          obtain rfl := Option.some.inj h
          obtain ⟨a, vs, rfl, hs, rs⟩ := asL_snd m r h1
          have := asSs_snd rs h2
          subst this
          refine ⟨a, ss, rfl, hs, hl, fun ys p pm so hp => ?_⟩
          rw [sorted_is pm so]
          exact k.newL m (rps_strs _) p hp
        · cases h
/-! ### methods of texts -/
variable {o e : Expr} {f g : XE} {apos pos : Pos}
def xJoin (f g : XE) : XE := fun η M => (f η M).bind fun s M1 => (R.of (asS s) M1).bind fun z M2 => (g η M2).bind fun d M3 => R.of ((match asL M3 d with | some ds => some ds | none => asT d).bind fun ds => (asSs ds).bind fun ss =>
  if (ss.map fun (q : Str) => q.length).sum + ss.length * z.length ≤ 16777216 then some (.str (Txt.join z ss)) else none) M3
theorem de_join (ho : DE X W o f) (he : DE X W e g) (hs : starEach [e] X.env = [(false, eval e X.env)] := by rfl) (hbase : attributeBase o "join" X.env (eval o X.env) = eval o X.env := by rfl) (hline : (apos.endLine == pos.line) = true := by rfl) :
    DE X W (.Call (.Attribute o "join" apos) [e] [] pos) (xJoin f g) := PE.imp (pe_join ho he hs hbase hline) fun σ H Q z => by
  obtain ⟨η, F, B, ρ, M, er, m, w⟩ := z
  refine ⟨η, F, B, ρ, M, er, m, w.bind fun d M1 B1 ρ1 H1 l1 m1 w1 v rv => ?_⟩
  cases hz : asS d with
  | none => rw [hz] at w1; exact w1.elim
  | some z =>
    rw [hz] at w1
    have w1 : Wp X.K X.mg F B1 ρ1 (wAt W σ) _ ((g η M1).bind _) := w1
    have ev := asS_snd rv hz
    subst ev
    refine ⟨⟨z, rfl⟩, η, F, B1, ρ1, M1, er.mono l1, m1, w1.bind fun c M2 B2 ρ2 H2 l2 m2 w2 u ru => ?_⟩
    obtain ⟨dz, hd, w3⟩ := w2.of
    cases h1 : (match asL M2 c with | some ds => some ds | none => asT c) with
    | none => simp [h1] at hd
    | some ds =>
      simp only [h1, Option.bind_some] at hd
      cases h2 : asSs ds with
      | none => simp [h2] at hd
      | some ss =>
        simp only [h2, Option.bind_some] at hd
        split at hd
        · next hl =>
          obtain rfl := Option.some.inj hd
          cases h3 : asL M2 c with
          | some es =>
            simp only [h3, Option.some.injEq] at h1
            subst h1
            obtain ⟨a, vs, rfl, hs, rs⟩ := asL_snd m2 ru h3
            have := asSs_snd rs h2
            subst this
            exact ⟨z, a, ss, rfl, rfl, .inl hs, hl, (done_of w3).same m2 (.str _)⟩
          | none =>
            simp only [h3] at h1
            obtain ⟨a, vs, rfl, hs, rs⟩ := asT_snd m2 ru h1
            have := asSs_snd rs h2
            subst this
            exact ⟨z, a, ss, rfl, rfl, .inr hs, hl, (done_of w3).same m2 (.str _)⟩
        · cases hd
def xUpper (f : XE) : XE := fun η M => (f η M).bind fun s M1 => (R.of (asS s) M1).bind fun z M2 => if z.length ≤ 5592405 then .ok (.str (Txt.upper z)) M2 else .no
theorem de_upper (ho : DE X W o f) (hbase : attributeBase o "upper" X.env (eval o X.env) = eval o X.env := by rfl) (hline : (apos.endLine == pos.line) = true := by rfl) :
    DE X W (.Call (.Attribute o "upper" apos) [] [] pos) (xUpper f) := PE.imp (pe_upper ho hbase hline) fun σ H Q z => by
  obtain ⟨η, F, B, ρ, M, er, m, w⟩ := z
  refine ⟨η, F, B, ρ, M, er, m, w.bind fun d M1 B1 ρ1 H1 l1 m1 w1 v rv => ?_⟩
  cases hz : asS d with
  | none => rw [hz] at w1; exact w1.elim
  | some z =>
    rw [hz] at w1
    have w1 : Wp X.K X.mg F B1 ρ1 (wAt W σ) _ (if z.length ≤ 5592405 then R.ok (D.str (Txt.upper z)) M1 else .no) := w1
    split at w1
    · next hl =>
      have ev := asS_snd rv hz
      subst ev
      exact ⟨⟨z, rfl⟩, z, rfl, rfl, hl, (done_of w1).same m1 (.str _)⟩
    · exact w1.elim
/-! ### - of ints; dicts displayed -/
def xNeg (f : XE) : XE := fun η M => (f η M).bind fun d M1 => R.of ((asI d).map fun i => .int (-i)) M1
theorem de_neg (ha : DE X W e f) : DE X W (.UnaryOp .USub e pos) (xNeg f) := PE.imp (pe_un un_neg ha) fun σ H Q z => by
  obtain ⟨η, F, B, ρ, M, er, m, w⟩ := z
  refine ⟨η, F, B, ρ, M, er, m, w.bind fun d M1 B1 ρ1 H1 l1 m1 w1 v rv => ?_⟩
  cases hz : asI d with
  | none => rw [hz] at w1; exact w1.elim
  | some i =>
    rw [hz] at w1
    exact ⟨i, asI_snd rv hz, (done_of w1).same m1 (.int _)⟩
/-- {} that stays -/
def xDict0 : XE := fun _ M => .ok (.dct []) M
theorem de_dict0 : DE X W (.Dict [] [] pos) xDict0 := PE.imp (pe_locks pe_dnewK) fun σ H Q z => by
  obtain ⟨η, F, B, ρ, M, er, m, w⟩ := z
  intro p hp
  refine .lock upd_same trivial fun od => .here ?_
  rw [upd_upd]
  exact (done_of w).new m (fun p hp => .dct upd_same .nil) p hp
def keyD : D → Option Key
  | .int i => some (.inl i)
  | .str s => some (.inr s)
  | _ => none
theorem keyD_snd {K : PySem.W.Frag} {B : Hp} {ρ : List Addr} {d : D} {v : V} {k : Key} (r : Rp K B ρ d v) (h : keyD d = some k) : v = kV k := by
  cases r with
  | int i => cases h; rfl
  | str s => cases h; rfl
  | _ => cases h
/-- {k: v} that stays -/
def xDict1 (f g : XE) : XE := fun η M => (f η M).bind fun x M1 => (g η M1).bind fun y M2 => R.of ((keyD x).map fun k => .dct [(k, y)]) M2
theorem de_dict1 {k v : Expr} (hk : DE X W k f) (hv : DE X W v g) : DE X W (.Dict [some k] [v] pos) (xDict1 f g) := PE.imp (pe_locks (pe_disp (pps_cons hk hv pps_nil) rfl rfl (fun z => by cases z) (by simp))) fun σ H Q z => by
  obtain ⟨η, F, B, ρ, M, er, m, w⟩ := z
  intro p hp
  have hF : F p = none := fresh_back m.fr hp
  have m0 : MR X.K (upd F p (.dK [])) B ρ M (upd H p (.dK [])) := add_frame (m.more (Ex.new hp)) upd_same (fresh_back m.ex hp) (m.notin hp)
  cases h1 : f η M with
  | no => simp only [xDict1, h1, R.bind_no] at w; exact w.elim
  | ex e1 M1 =>
    simp only [xDict1, h1, R.bind_ex] at w
    refine ⟨η, _, B, ρ, M, er, m0, ?_⟩
    rw [h1]
    intro c dx B' ρ' H' l mm xr
    have m2 : MR X.K F B' ρ' M1 H' := by
      exact mm.less hF
    exact w c dx B' ρ' H' l m2 xr
  | ok x M1 =>
    simp only [xDict1, h1, R.bind_ok] at w
    refine ⟨η, _, B, ρ, M, er, m0, ?_⟩
    rw [h1]
    intro B1 ρ1 H1 l1 m1 v1 r1
    cases h2 : g η M1 with
    | no => simp only [h2, R.bind_no] at w; exact w.elim
    | ex e1 M2 =>
      simp only [h2, R.bind_ex] at w
      refine ⟨η, _, B1, ρ1, M1, er.mono l1, m1, ?_⟩
      rw [h2]
      intro c dx B' ρ' H' l mm xr
      have m2 : MR X.K F B' ρ' M2 H' := by
        exact mm.less hF
      exact w c dx B' ρ' H' (l1.trans l) m2 xr
    | ok y M2 =>
      simp only [h2, R.bind_ok] at w
      obtain ⟨dz, hz, w2⟩ := w.of
      cases hk : keyD x with
      | none => simp [hk] at hz
      | some kk =>
        simp [hk] at hz
        subst hz
        refine ⟨η, _, B1, ρ1, M1, er.mono l1, m1, ?_⟩
        rw [h2]
        intro B2 ρ2 H2 l2 m2 v2 r2
        refine ⟨m2.fr p _ upd_same, [(kk, v2)], ?_, by simp, ?_⟩
        · rw [keyD_snd r1 hk]; rfl
        · have e0 : mergeK [] [(kk, v2)] = [(kk, v2)] := rfl
          rw [e0]
          obtain ⟨hB, hρ⟩ := m2.dj p _ upd_same
          refine .lock upd_same trivial fun od => .here ?_
          rw [upd_upd]
          obtain ⟨m3, _, _⟩ := drop_frame m2 hF (.frz od (.dK [(kk, v2)]))
          -- the dict is now one that stays
          have l3 : Le B2 ρ2 (upd B2 p (.frz od (.dK [(kk, v2)]))) ρ2 := ⟨Ex.new hB, [], by simp⟩
          have m4 : MR X.K F (upd B2 p (.frz od (.dK [(kk, v2)]))) ρ2 M2 (upd H2 p (.frz od (.dK [(kk, v2)]))) := by
            refine ⟨fun a o e => ?_, m3.fr, fun a o e => ⟨?_, (m3.dj a o e).2⟩, m3.len, m3.nd, fun n ob h => ?_, m3.nt⟩
            · by_cases q : a = p
              · subst q; rw [upd_same] at e ⊢; exact e
              · rw [upd_ne q] at e; exact m3.ex a o e
            · rw [upd_ne (ne_of_none e hF)]; exact (m3.dj a o e).1
            · obtain ⟨a, ha, hb, r⟩ := m3.ob n ob h
              have na : a ≠ p := fun z => hρ (z ▸ List.mem_of_getElem? ha)
              exact ⟨a, ha, fun z => by rw [upd_ne na]; exact hb z, r.mono l3 fun _ q => q⟩
          exact w2 _ _ _ ((l1.trans l2).trans l3) m4 _ (.dct upd_same (.cons (r2.mono l3) .nil))
/-! ### keywords of a call -/
variable {es : List Expr} {fa fk : XA}
/-- the values in the order of the parameters: positions of the keywords' values behind the others -/
theorem de_callK {k n m : Nat} {x : Str} {ks : List Str} {kws : List Keyword} {fn : Fn} {p0 : Pos} {ad : Addr} {fd : FuncData} {ps : List Str} {g : List Value → List Value → List Value} {gV : List V → List V → List V} {gD : List D → List D → List D}
    (Fo : FnOk X.prog X.w X.K X.mg X.base CX0 k ad fd ps (spF X.K X.mg m fn)) (hm : X.mg x = some (.ref ad)) (hk : PySem.W.keepIn X.K (.ref ad) = true) (hb : KBn X.K fd ps n ks g gV)
    (hrel : ∀ {B : Hp} {ρ : List Addr} {ds es : List D} {vs us : List V}, Rps X.K B ρ ds vs → Rps X.K B ρ es us → ds.length = n → es.length = ks.length → Rps X.K B ρ (gD ds es) (gV vs us) ∧ (gD ds es).length = m)
    (hr : Room k X.A) (hg : Gl X x) (ha : DA X W (e :: es) fa) (hkw : PKD X W kws fk) (hall : (backToKw pos (keywordEach kws X.env)).all (·.1.isSome) = true := by rfl) (hks : (backToKw pos (keywordEach kws X.env)).filterMap (·.1) = ks := by rfl)
    (hdb : (x == ("__debug__" : Str)) = false := by decide) (he : starEach (e :: es) X.env = (false, eval e X.env) :: starEach es X.env := by rfl)
    (hpl : ((backTo pos (starEach (e :: es) X.env)).any (·.1) || (backToKw pos (keywordEach kws X.env)).any (·.1.isNone)) = false := by rfl) :
    DE X W (.Call (.Name x p0) (e :: es) kws pos) (fun η M => (fa η M).bind fun ds M1 => (fk η M1).bind fun cs M2 => if ds.length = n ∧ cs.length = ks.length then fn (gD ds cs) M2 else .no) := by
  refine PE.imp (pe_callN (E := E0) Fo hr hg hm hk hb passW ha hkw.pk hall hks hdb he hpl) fun σ H Q z => ?_
  obtain ⟨η, Fr, B, ρ, M, er, m0, w⟩ := z
  refine ⟨η, Fr, B, ρ, M, er, m0, w.bind fun ds M1 B1 ρ1 H1 l1 m1 w1 vs rv => ?_⟩
  refine ⟨η, Fr, B1, ρ1, M1, er.mono l1, m1, w1.bind fun cs M2 B2 ρ2 H2 l2 m2 w2 us ru => ?_⟩
  split at w2
  · next hl =>
    have rv2 := rv.mono l2
    obtain ⟨hR, hL⟩ := hrel rv2 ru hl.1 hl.2
    exact ⟨by rw [← rv2.len]; exact hl.1, by rw [← ru.len]; exact hl.2, _, _, Fr, B2, ρ2, M2, hL, hR, m2, w2⟩
  · exact w2.elim
end
end Dn
namespace Dn
open PySem PyProof.Rows L2 Evl
/-! ### truth of any thing -/
def truD (M : Mem) (d : D) : Option Bool := match d with
  | .bl b => some b
  | .non => some false
  | .int i => some (i != 0)
  | .str s => if s.length ≤ sizeLine then some ((s.length : Int) != 0) else none
  | _ => match asL M d with
    | some ds => some (!ds.isEmpty)
    | none => (asT d).map fun ds => !ds.isEmpty
theorem emp_rel {K : PySem.W.Frag} {B : Hp} {ρ : List Addr} {ds : List D} {vs : List V} (r : Rps K B ρ ds vs) : (!vs.isEmpty) = !ds.isEmpty := by
  cases r <;> rfl
theorem truD_snd {K : PySem.W.Frag} {F B H : Hp} {ρ : List Addr} {M : Mem} (m : MR K F B ρ M H) {d : D} {v : V} {b : Bool} (r : Rp K B ρ d v) (h : truD M d = some b) : TruV K v H b := by
  have gen : (match asL M d with | some ds => some (!ds.isEmpty) | none => (asT d).map fun ds => !ds.isEmpty) = some b → TruV K v H b := by
    intro h
    split at h
    · next ds hd =>
      obtain ⟨a, vs, rfl, hs, rs⟩ := asL_snd m r hd
      obtain rfl := Option.some.inj h
      exact .inl ⟨vs, hs, (emp_rel rs).symm⟩
    · cases hd : asT d with
      | none => simp [hd] at h
      | some ds =>
        simp only [hd, Option.map_some] at h
        obtain ⟨a, vs, rfl, hs, rs⟩ := asT_snd m r hd
        obtain rfl := Option.some.inj h
        exact .inr (.inl ⟨vs, hs, (emp_rel rs).symm⟩)
  cases d with
  | bl c => cases r; obtain rfl := Option.some.inj h; exact rfl
  | non => cases r; obtain rfl := Option.some.inj h; exact rfl
  | int i => cases r; obtain rfl := Option.some.inj h; exact rfl
  | str s =>
    cases r
    have h : (if s.length ≤ sizeLine then some ((s.length : Int) != 0) else none) = some b := h
    split at h
    · next hz => obtain rfl := Option.some.inj h; exact ⟨hz, rfl⟩
    · cases h
  | lst ds => exact gen h
  | tup ds => exact gen h
  | dct ds => exact gen h
  | dcT ds => exact gen h
  | ins x ds => exact gen h
  | fn x => exact gen h
  | scr ds => exact gen h
  | ptr n => exact gen h
  | raw u => exact gen h
section
variable {X : Cx} {W : WX} {a : Expr} {f : XE}
def xTru (f : XE) : XT := fun η M => (f η M).bind fun d M1 => R.of (truD M1 d) M1
theorem dt_tru (ha : DE X W a f) (he : ∀ whole, isTrue a X.env whole = (do let v ← whole; standAt a.pos; holding [v] (truthy v)) := by intro _; rfl) : DT X W a (xTru f) :=
  PT.imp (pt_truth ha he) fun σ H Q z => by
    obtain ⟨η, F, B, ρ, M, er, m, w⟩ := z
    refine ⟨η, F, B, ρ, M, er, m, w.bind fun d M1 B1 ρ1 H1 l1 m1 w1 v rv => ?_⟩
    obtain ⟨b, hb, w2⟩ := w1.of
    exact ⟨b, truD_snd m1 rv hb, Wp.ret (P := fun b _ _ H' => Q b H') w2 m1⟩
theorem de_gl {x : Str} {v : V} {pos : Pos} (h : ∃ u, X.mg x = some u ∧ RelV v u) (hg : Gl X x) (hd : (x == ("__debug__" : Str)) = false := by decide) : DE X W (.Name x pos) (xC (dOf v)) := by
  obtain ⟨u, hm, r⟩ := h
  exact de_glob hg hm r hd
end
/-! ### == of data -/
mutual
def toP : D → Option PyData
  | .non => some .none
  | .bl b => some (.bool b)
  | .int i => some (.int i)
  | .str s => some (.str s)
  | .lst ds => (toPs ds).map PyData.list
  | .tup ds => (toPs ds).map PyData.tuple
  | _ => none
def toPs : List D → Option (List PyData)
  | [] => some []
  | d :: ds => (toP d).bind fun p => (toPs ds).map (p :: ·)
end
section
variable {K : PySem.W.Frag} {B H : Hp} {ρ : List Addr}
mutual
theorem toP_snd (ex : Ex B H) : ∀ {d : D} {v : V} {p : PyData}, Rp K B ρ d v → toP d = some p → Dp K H v p
  | _, _, _, .non, h => by unfold toP at h; cases h; exact .non
  | _, _, _, .bl b, h => by unfold toP at h; cases h; exact .bl b
  | _, _, _, .int i, h => by unfold toP at h; cases h; exact .int i
  | _, _, _, .str s, h => by unfold toP at h; cases h; exact .str s
  | _, _, _, .lst (ds := ds) e r, h => by
    unfold toP at h
    cases hp : toPs ds with
    | none => simp [hp] at h
    | some ps =>
      simp [hp] at h
      subst h
      exact .lst (sq_of (ex _ _ e)) (toPs_snd ex r hp)
  | _, _, _, .tup (ds := ds) e r _, h => by
    unfold toP at h
    cases hp : toPs ds with
    | none => simp [hp] at h
    | some ps =>
      simp [hp] at h
      subst h
      exact .tup (ex_t ex e) (toPs_snd ex r hp)
  | _, _, _, .dct _ _, h => by unfold toP at h; cases h
  | _, _, _, .dcT _ _, h => by unfold toP at h; cases h
  | _, _, _, .ins _ _ _, h => by unfold toP at h; cases h
  | _, _, _, .fn _, h => by unfold toP at h; cases h
  | _, _, _, .scr _, h => by unfold toP at h; cases h
  | _, _, _, .ptr _, h => by unfold toP at h; cases h
  | _, _, _, .raw _, h => by unfold toP at h; cases h
theorem toPs_snd (ex : Ex B H) : ∀ {ds : List D} {vs : List V} {ps : List PyData}, Rps K B ρ ds vs → toPs ds = some ps → DpAll K H vs ps
  | _, _, _, .nil, h => by unfold toPs at h; cases h; exact .nil
  | _, _, _, .cons (d := d) (ds := ds) r rs, h => by
    unfold toPs at h
    cases hp : toP d with
    | none => simp [hp] at h
    | some p =>
      cases hq : toPs ds with
      | none => simp [hp, hq] at h
      | some ps =>
        simp [hp, hq] at h
        subst h
        exact .cons (toP_snd ex r hp) (toPs_snd ex rs hq)
end
end
def eqP (neg : Bool) : Op2 := fun _ x y => (toP x).bind fun p => (toP y).bind fun q => if SeqAt.shaped p = true ∧ SeqAt.shaped q = true then some (.bl (if neg then !PyData.eqv p q else PyData.eqv p q)) else none
theorem eqP_some {neg : Bool} {M : Mem} {x y z : D} (h : eqP neg M x y = some z) : ∃ p q, toP x = some p ∧ toP y = some q ∧ SeqAt.shaped p = true ∧ SeqAt.shaped q = true ∧ z = .bl (if neg then !PyData.eqv p q else PyData.eqv p q) := by
  unfold eqP at h
  cases h1 : toP x with
  | none => simp [h1] at h
  | some p =>
    cases h2 : toP y with
    | none => simp [h1, h2] at h
    | some q =>
      simp only [h1, h2, Option.bind_some] at h
      split at h
      · next hs => exact ⟨p, q, rfl, rfl, hs.1, hs.2, (Option.some.inj h).symm⟩
      · cases h
theorem od_eq {X : Cx} {k : Nat} (hr : Room k X.A) : OpD X (compareOp .Eq) (eqP false) := by
  refine ⟨_, op_eqD hr.units, fun F B ρ M H x y dx dy dz Q m rx ry e k => ?_⟩
  obtain ⟨p, q, h1, h2, h3, h4, rfl⟩ := eqP_some e
  exact ⟨p, q, toP_snd m.ex rx h1, toP_snd m.ex ry h2, h3, h4, k.same m (.bl _)⟩
theorem od_ne {X : Cx} {k : Nat} (hr : Room k X.A) : OpD X (compareOp .NotEq) (eqP true) := by
  refine ⟨_, op_neD hr.units, fun F B ρ M H x y dx dy dz Q m rx ry e k => ?_⟩
  obtain ⟨p, q, h1, h2, h3, h4, rfl⟩ := eqP_some e
  exact ⟨p, q, toP_snd m.ex rx h1, toP_snd m.ex ry h2, h3, h4, k.same m (.bl _)⟩
theorem bt_len : bootBuiltins "len" = some (.builtin "len") := by decide +kernel
theorem bt_abs : bootBuiltins "abs" = some (.builtin "abs") := by decide +kernel
theorem bt_max : bootBuiltins "max" = some (.builtin "max") := by decide +kernel
theorem bt_min : bootBuiltins "min" = some (.builtin "min") := by decide +kernel
theorem bt_all : bootBuiltins "all" = some (.builtin "all") := by decide +kernel
theorem bt_isinstance : bootBuiltins "isinstance" = some (.builtin "isinstance") := by decide +kernel
theorem bt_sorted : bootBuiltins "sorted" = some (.builtin "sorted") := by decide +kernel
theorem bt_int : bootBuiltins "int" = some (.type "int") := by decide +kernel
theorem bt_str : bootBuiltins "str" = some (.type "str") := by decide +kernel
theorem bt_bool : bootBuiltins "bool" = some (.type "bool") := by decide +kernel
theorem bt_list : bootBuiltins "list" = some (.type "list") := by decide +kernel
theorem bt_tuple : bootBuiltins "tuple" = some (.type "tuple") := by decide +kernel
theorem bt_dict : bootBuiltins "dict" = some (.type "dict") := by decide +kernel
end Dn
namespace Dn
open PySem PyProof.Rows L2 Evl
/-- a def called with keywords behind n values, in the parameters' order -/
structure FnKD (P : Program) (w : World) (K : PySem.W.Frag) (mg : Str → Option Value) (base : Heap) (k : Nat) (x : Str) (n : Nat) (ks : List Str) (f : Fn) : Prop where
  ex : ∃ (a : Addr) (fd : FuncData) (ps : List Str), FnOk P w K mg base CX0 k a fd ps (spF K mg (n + ks.length) f) ∧ mg x = some (.ref a) ∧ PySem.W.keepIn K (.ref a) = true ∧ KBn K fd ps n ks (fun us ws => us ++ ws) (fun vs zs => vs ++ zs)
theorem kb_of {K : PySem.W.Frag} {x qual : Str} {st : Stmt} {f : Addr} {fd : FuncData} {ps ks : List Str} {n : Nat} (F : Fun K x qual st f fd)
    (h : ∀ (kV doc pm : Value) (an : Option Addr) (cdv ct : Value) (us ws : List Value), us.length = n → ws.length = ks.length → bindArgs (PySem.W.fnOf x qual (defArgs st) (defBody st) (defScope st) .none kV doc pm an cdv ct) ⟨us, ks.zip ws⟩ = pure (ps.zip (us ++ ws))) :
    KBn K fd ps n ks (fun us ws => us ++ ws) (fun vs zs => vs ++ zs) := by
  obtain ⟨oc, od, kV, doc, pm, an, cdv, ct, osl, rfl, lk, hcd⟩ := F.ex
  exact ⟨fun s us ws _ l1 l2 => .of_eq (h kV doc pm an cdv ct us ws l1 l2), fun r1 r2 => r1.append r2⟩
section
variable {X : Cx} {W : WX} {e : Expr} {es : List Expr} {fa fk : XA} {pos : Pos}
def xFnK' (n k : Nat) (f : Fn) (fa fk : XA) : XE := fun η M => (fa η M).bind fun ds M1 => (fk η M1).bind fun cs M2 => if ds.length = n ∧ cs.length = k then f (ds ++ cs) M2 else .no
theorem de_callKw {k n kk : Nat} {x : Str} {ks : List Str} {kws : List Keyword} {fn : Fn} {p0 : Pos} (G : FnKD X.prog X.w X.K X.mg X.base k x n ks fn)
    (hr : Room k X.A) (hg : Gl X x) (ha : DA X W (e :: es) fa) (hkw : PKD X W kws fk) (hall : (backToKw pos (keywordEach kws X.env)).all (·.1.isSome) = true := by rfl) (hks : (backToKw pos (keywordEach kws X.env)).filterMap (·.1) = ks := by rfl)
    (hdb : (x == ("__debug__" : Str)) = false := by decide) (he : starEach (e :: es) X.env = (false, eval e X.env) :: starEach es X.env := by rfl)
    (hpl : ((backTo pos (starEach (e :: es) X.env)).any (·.1) || (backToKw pos (keywordEach kws X.env)).any (·.1.isNone)) = false := by rfl)
    (hkl : ks.length = kk := by rfl) : DE X W (.Call (.Name x p0) (e :: es) kws pos) (xFnK' n kk fn fa fk) := by
  subst hkl
  obtain ⟨ad, fd, ps, Fo, hm, hk, hb⟩ := G.ex
  exact de_callK (gD := fun ds cs => ds ++ cs) Fo hm hk hb (fun r1 r2 l1 l2 => ⟨r1.app r2, by rw [List.length_append, l1, l2]⟩) hr hg ha hkw hall hks hdb he hpl
end
end Dn
namespace Dn
open PySem PyProof.Rows L2 Evl
theorem fn_okE {P : Program} {w : World} {K : PySem.W.Frag} {mg : Str → Option Value} {base : Heap} {x qual : Str} {st : Stmt} {f : Addr} {fd : FuncData} {N ps : List Str} {k n m lv : Nat} {body : XS} {fF : Fn} (F : Fun K x qual st f fd) (S : FnScope N ps (defScope st))
    (hf : fF = callB n m body) (hn : ps.length = n) (hm : N.length = m) (hlv : lv = k + 1)
    (hb : ∀ (cdv : Value) (A : Around) (outer : List Env) (s : Shared) (H : Hp) (E : XK) (W : WX), Room k (A.deeper (envOfC qual (defScope st) s.heap.objs.size f cdv)) → DSs (cxOf CX0 P w K mg base N qual (defScope st) f cdv A outer s H E).nox W (defBody st) body) :
    FnOk P w K mg base CX0 lv f fd ps (spF K mg n fF) := by
  subst hf hn hm hlv
  exact fn_ok F S hb
end Dn
namespace Dn
open PySem PyProof.Rows L2 Evl
/-! ### the end of a law -/
def spLaw (K : PySem.W.Frag) : Sp := fun vs H Q _ => ∃ (a : Addr) (ns : List Int), vs = [.ref a] ∧ SqL K H a (ns.map V.int) ∧ ns.length ≤ 63 ∧ (∀ z ∈ ns, Builtin.Int.intBits z ≤ 1048576) ∧ ∀ H', Q (.bl true) H'
theorem law_sp {K : PySem.W.Frag} {mg : Str → Option Value} {f : Fn} (h : ∀ ns : List Int, ns.length ≤ 63 → (∀ z ∈ ns, Builtin.Int.intBits z ≤ 1048576) → ∃ M', f [.scr ns] [] = .ok (.bl true) M') : ∀ vs H Q E, spLaw K vs H Q E → spF K mg 1 f vs H Q E := by
  intro vs H Q E ⟨a, ns, ev, hs, hl, hb, k⟩
  subst ev
  obtain ⟨M', e⟩ := h ns hl hb
  refine ⟨fun _ _ _ => False, [.scr ns], fun _ => none, H, [], [], rfl, .cons (.scr hs) .nil, ⟨Ex.refl H, fun _ _ e => (nomatch e), fun _ _ e => (nomatch e), rfl, List.nodup_nil, fun n o e => (by simp at e), fun _ _ e => (nomatch e)⟩, ?_⟩
  rw [e]
  intro B' ρ' H' _ _ v r
  cases r
  exact k H'
theorem law_walk {l : PySem.W.OpenLaw} {q : Program} {loose : List Str} {XP : (Str → Option Value) → Heap → Prop} {YP : World → Heap → Prop} {d : DefRec} {K : Params → PySem.W.Frag} {k : Nat} {x : Str} (hn : l.most = some 63) (hdf : d.params.defaults = []) (hr : Room k callerA)
    (hY : ∀ (w : World) (h : Heap), YP w h → (K w.params).In h)
    (F : ∀ (w : World) (mg : Str → Option Value) (fa : Addr) (h : Heap), (K w.params).In h → h.Ns mainGlobals mg → mg d.name = some (.ref fa) →
      ∃ fd : FuncData, (∀ (s : Shared) (u : Value), BindsTo s fd ⟨[u], []⟩ [(x, u)]) ∧ ∀ base : Heap, (K w.params).In base → base.Ns mainGlobals mg → FnOk l.prog w (K w.params) mg base CX0 k fa fd [x] (spLaw (K w.params))) :
    PySem.W.WalkO q loose XP YP l.row.toRowW d [] (fun f vs => PySem.call f vs) :=
  L2.walk_ofB (n := 63) (k := k) (x := x) (CX := fun _ => CX0) (sp := fun w => spLaw (K w.params)) hn (by decide) hdf hr hY F (fun _ _ a ns hl hb _ hS => ⟨a, ns, rfl, hS, hl, hb, fun _ => rfl⟩) fun _ _ _ _ _ z => z
end Dn

/-! DnSort: sorted of any data, sorted by key=f, < of any data -/
namespace Dn
open PySem PyProof.Rows L2 Evl
open PySem.W (alike dataLt dataLe AllAlike Sortable EachIs)
def pD (d : D) : PyData := (toP d).getD .none
def isT1 : PyData → Bool
  | .tuple (_ :: _) => true
  | _ => false
def notT : PyData → Bool
  | .none => false
  | .tuple _ => false
  | _ => true
def sortOk (ps : List PyData) : Bool := (ps.all fun a => ps.all fun b => alike a b) && (ps.all isT1 || ps.all notT) && ps.all fun p => decide (p.depth ≤ 60)
theorem sortOk_snd {ps : List PyData} (h : sortOk ps = true) : AllAlike ps ∧ Sortable ps ∧ ∀ p ∈ ps, p.depth ≤ 60 := by
  unfold sortOk at h
  simp only [Bool.and_eq_true, Bool.or_eq_true, List.all_eq_true, decide_eq_true_eq] at h
  refine ⟨fun d hd d' hd' => h.1.1 d hd d' hd', ?_, h.2⟩
  rcases h.1.2 with q | q
  · refine .inl fun d hd => ?_
    have := q d hd
    unfold isT1 at this
    split at this
    · exact ⟨_, _, rfl⟩
    · cases this
  · refine .inr fun d hd => ?_
    have := q d hd
    unfold notT at this
    split at this
    · cases this
    · cases this
    · next h1 h2 => exact ⟨fun e => h1 e, fun xs e => h2 xs e⟩
theorem pD_map : ∀ {ds : List D} {ps : List PyData}, toPs ds = some ps → ds.map pD = ps
  | [], _, h => by unfold toPs at h; cases h; rfl
  | d :: ds, _, h => by
    unfold toPs at h
    cases h1 : toP d with
    | none => simp [h1] at h
    | some p =>
      cases h2 : toPs ds with
      | none => simp [h1, h2] at h
      | some ps =>
        simp [h1, h2] at h
        subst h
        rw [List.map_cons, pD_map h2]
        simp [pD, h1]
section
variable {X : Cx} {W : WX} {pins : List (Addr × Obj)} {σ : L2.St} {H B : Hp} {ρ : List Addr} {s : Shared}
/-- u stands for d -/
def StD (K : PySem.W.Frag) (B : Hp) (ρ : List Addr) (u : Value) (d : D) : Prop := ∃ v, RelV v u ∧ Rp K B ρ d v
theorem each_std {K : PySem.W.Frag} : ∀ {ds : List D} {vs : List V} {us : List Value}, Rps K B ρ ds vs → Vals vs us → EachIs (StD K B ρ) us ds
  | _, _, _, .nil, r => by cases r; exact .nil
  | _, _, _, .cons h t, r => by
    cases r with
    | cons r1 r2 => exact .cons ⟨_, r1, h⟩ (each_std t r2)
theorem std_each {K : PySem.W.Frag} : ∀ {ds : List D} {us : List Value}, EachIs (StD K B ρ) us ds → ∃ vs, Vals vs us ∧ Rps K B ρ ds vs
  | _, _, .nil => ⟨[], .nil, .nil⟩
  | _, _, .cons ⟨v, r, h⟩ t => by
    obtain ⟨vs, r2, h2⟩ := std_each t
    exact ⟨v :: vs, .cons r r2, .cons h h2⟩
theorem each_reads (I : Inv X pins σ H s) (ex : Ex B H) : ∀ {ds : List D} {vs : List V} {us : List Value} {ps : List PyData}, Rps X.K B ρ ds vs → Vals vs us → toPs ds = some ps → EachIs (fun u d => ∃ as, Reads s.heap u (pD d) as) us ds
  | _, _, _, _, .nil, r, _ => by cases r; exact .nil
  | _, _, _, _, .cons (d := d) (ds := ds) h t, r, hp => by
    cases r with
    | cons r1 r2 =>
      unfold toPs at hp
      cases h1 : toP d with
      | none => simp [h1] at hp
      | some p =>
        cases h2 : toPs ds with
        | none => simp [h1, h2] at hp
        | some ps =>
          refine .cons ?_ (each_reads I ex t r2 h2)
          have e : pD d = p := by simp [pD, h1]
          rw [e]
          exact Dp.reads I p _ _ (toP_snd ex h h1) r1
end
/-! ### sorted(xs) -/
noncomputable def sortD (ds : List D) : List D := ds.mergeSort (dataLe false pD)
noncomputable def bSortD : OpC := one fun M d => (asL M d).bind fun ds => (toPs ds).bind fun ps => if sortOk ps = true then some (.lst (sortD ds)) else none
def rSortD (K : PySem.W.Frag) : List V → Hp → VK → Prop := fun vs H Q => ∃ F B ρ M a xs ds ps, vs = [V.ref a] ∧ SqL K H a xs ∧ MR K F B ρ M H ∧ Rps K B ρ ds xs ∧ toPs ds = some ps ∧ sortOk ps = true ∧ Done K F B ρ M (.lst (sortD ds)) Q
section
variable {X : Cx} {W : WX}
theorem cr_sortD {k : Nat} (hr : Room k X.A) : CallR X (.builtin "sorted") (rSortD X.K) := by
  intro pins s σ H vs us Q I r h
  obtain ⟨F, B, ρ, M, a, xs, ds, ps, rfl, hs, m, rs, hp, ok, q⟩ := h
  obtain ⟨its, rv, hl, hz⟩ := I.list hs
  obtain ⟨u, rfl, ru⟩ := vals1 r
  obtain rfl : u = Value.ref a := ru
  obtain ⟨o1, o2, o3⟩ := sortOk_snd ok
  have em := pD_map hp
  have hun := hr.un
  refine PySem.W.sorted_data (R := StD X.K B ρ) (enc := pD) (bs := ds) hl.isList (each_std rs rv) (each_reads I m.ex rs rv hp) (by rw [em]; exact o1) (by rw [em]; exact o2) (by rw [rs.len]; exact hz) (fun b hb => ?_) fun out ho eo => ?_
  · have : pD b ∈ ps := by rw [← em]; exact List.mem_map.mpr ⟨b, hb, rfl⟩
    have := o3 _ this
    omega
  · obtain ⟨ys, ry, rd⟩ := std_each eo
    have hl2 := rs.len
    refine ⟨.ref (s.heap.objs.size + 1), upd H (s.heap.objs.size + 1) (.lst ys), I.laid (t' := s.toks) (fun b o e => sortedAll_old e) (Nat.le_succ _) ⟨?_, out, ?_⟩, rfl, q.newL m rd _ (I.hok.fresh (Nat.le_succ _))⟩
    · have := ry.length
      omega
    · obtain ⟨n, hn⟩ := sortedAll_at s.heap its out.toArray
      exact ⟨n, ry, hn⟩
theorem cd_sortD {k : Nat} (hr : Room k X.A) : CallD X (.builtin "sorted") bSortD := by
  refine ⟨_, cr_sortD hr, fun F B ρ M H xs ds dz Q m rx e k => ?_⟩
  obtain ⟨d, rfl, h⟩ := one_some e
  cases rx with
  | cons r rr =>
    cases rr
    cases h1 : asL M d with
    | none => simp [h1] at h
    | some es =>
      cases h2 : toPs es with
      | none => simp [h1, h2] at h
      | some ps =>
        simp only [h1, h2, Option.bind_some] at h
        split at h
        · next hl =>
          obtain rfl := Option.some.inj h
          obtain ⟨a, vs, rfl, hs, rs⟩ := asL_snd m r h1
          exact ⟨F, B, ρ, M, a, vs, es, ps, rfl, hs, m, rs, h2, hl, k⟩
        · cases h
end
end Dn
namespace Dn
open PySem PyProof.Rows L2 Evl
open PySem.W (alike dataLt dataLe AllAlike Sortable EachIs)
/-! ### sorted(xs, key=f) -/
theorem R.bind_assoc {α β γ : Type} (r : R α) (f : α → Mem → R β) (g : β → Mem → R γ) : (r.bind f).bind g = r.bind fun a m => (f a m).bind g := by
  cases r <;> rfl
def keysR (f : Fn) : List D → Mem → R (List D)
  | [], M => .ok [] M
  | d :: ds, M => (f [d] M).bind fun k M1 => (keysR f ds M1).bind fun ks M2 => .ok (k :: ks) M2
noncomputable def sortBy (ks es : List D) : List D := ((es.zip ks).mergeSort (dataLe false fun p => pD p.2)).map Prod.fst
noncomputable def sortK (es ks : List D) : Option (List D) := if ks.length = es.length then (toPs ks).bind fun ps => if sortOk ps = true then some (sortBy ks es) else none else none
noncomputable def xSortK (fin : List D → Mem → R D) (f : Fn) (fe : XE) : XE := fun η M => (fe η M).bind fun d M1 => (R.of (asL M1 d) M1).bind fun es M2 => (keysR f es M2).bind fun ks M3 => (R.of (sortK es ks) M3).bind fin
/-- amid sorted -/
def inX (X : Cx) : Cx := { X with A := X.A.in1.in1, xe := fun _ _ => False }
section
variable {X : Cx} {pins : List (Addr × Obj)} {σ : L2.St} {H : Hp} {s : Shared}
theorem inv_in (I : Inv X pins σ H s) : Inv (inX X) pins σ H s :=
  ⟨⟨I.ok.mod, I.ok.kind, I.ok.glob, I.ok.blt, I.ok.above, I.ok.inj, I.ok.has, I.ok.cab, I.ok.hd, I.ok.frames, I.ok.stk, I.ok.exf, I.ok.bs, I.ok.bsz, I.ok.noex, I.ok.exfs, I.ok.funs, I.ok.frf⟩, I.os, I.bare, I.base, I.loc, I.cell, I.free, I.freeC, I.pin, I.hok, I.len⟩
theorem inv_out (ok : X.Ok) (I : Inv (inX X) pins σ H s) : Inv X pins σ H s := ⟨ok, I.os, I.bare, I.base, I.loc, I.cell, I.free, I.freeC, I.pin, I.hok, I.len⟩
/-- a thing of ours that was not looked at is looked at -/
theorem inv_track {a : Addr} {o : HO} (I : Inv X pins σ H s) (hf : FpOk X pins H a) (ha : X.s_0.heap.objs.size ≤ a) (new : ObjOk X.prog X.w (upd H a o) s.heap a o) : Inv X pins σ (upd H a o) s := by
  have hn : H a = none := hf.1
  have ne0 : ∀ b ob, X.s_0.heap.get? b = some ob → b ≠ a := fun b ob q => Nat.ne_of_lt (Nat.lt_of_lt_of_le (Heap.lt_size q) ha)
  refine ⟨I.ok, I.os, I.bare, ⟨I.base.keep, I.base.slot, fun b ob q n hx => ?_, I.base.there, fun b xs q => ?_, fun b ob y q => ?_, fun b qs q => ?_⟩, I.loc, I.cell, ?_, fun x c e => ?_, fun p hp => ?_, fun b u q => ?_, I.len⟩
  · rw [upd_ne (ne0 b ob q)]; exact I.base.free b ob q n hx
  · have q2 := I.base.tups b xs q
    rw [upd_ne (ne_of_none q2 hn)]; exact q2
  · have q2 := I.base.frzs b ob y q
    rw [upd_ne (ne_of_none q2 hn)]; exact q2
  · obtain ⟨more, q2⟩ := I.base.tbls b qs q
    exact ⟨more, by rw [upd_ne (ne_of_none q2 hn)]; exact q2⟩
  · rw [upd_ne (Ne.symm hf.2.1)]; exact I.free
  · rw [upd_ne (hf.2.2.2.2.1 x c e)]; exact I.freeC x c e
  · obtain ⟨p1, p2, p3, p4, p5⟩ := I.pin p hp
    exact ⟨p1, by rw [upd_ne (hf.2.2.2.2.2 p hp)]; exact p2, p3, p4, p5⟩
  · by_cases hb : b = a
    · subst hb
      rw [upd_same] at q
      cases q
      exact new
    · rw [upd_ne hb] at q
      exact (I.hok b u q).stay (fun _ _ _ z => z) (fun d z => by rw [upd_ne (ne_of_none z hn)]; exact z) fun d xs z => by rw [upd_ne (ne_of_none z hn)]; exact z
end
/-- a heap without the thing at a -/
def holeAt (h : Heap) (a : Addr) : Heap := h.update a fun o => { o with data := .freed }
theorem hole_none (h : Heap) (a : Addr) : (holeAt h a).get? a = none := by
  obtain ⟨objs, l⟩ := h
  unfold holeAt Heap.update Heap.get?
  dsimp only
  rw [Array.getElem?_modify]
  simp only [if_true]
  cases objs[a]? with
  | none => rfl
  | some o => obtain ⟨c, d, dt, sl⟩ := o; rfl
theorem hole_ne {h : Heap} {a b : Addr} (n : b ≠ a) : (holeAt h a).get? b = h.get? b := Heap.get?_update_ne h b a _ n
theorem vals_get : ∀ {xs : List V} {us : List Value} {j : Nat} {u : Value}, Vals xs us → us[j]? = some u → ∃ x, xs[j]? = some x ∧ RelV x u
  | _, _, _, _, .nil, h => by simp at h
  | _, _, 0, _, .cons r _, h => by simp at h; subst h; exact ⟨_, rfl, r⟩
  | _, _, j + 1, u, .cons _ t, h => by
    obtain ⟨x, h1, h2⟩ := vals_get (j := j) (u := u) t (by simpa using h)
    exact ⟨x, by simpa using h1, h2⟩
theorem each_zip {α β γ : Type} {R : α → β → Prop} : ∀ {us : List α} {bs : List β} {cs : List γ}, EachIs R us bs → cs.length = bs.length → EachIs (fun u (p : β × γ) => R u p.1) us (bs.zip cs)
  | _, _, _, .nil, _ => by simp; exact .nil
  | _, _, [], .cons _ _, h => by simp at h
  | _, _, _ :: _, .cons r t, h => .cons r (each_zip t (by simpa using h))
theorem each_fst {α β γ : Type} {R : α → β → Prop} : ∀ {us : List α} {ps : List (β × γ)}, EachIs (fun u (p : β × γ) => R u p.1) us ps → EachIs R us (ps.map Prod.fst)
  | _, _, .nil => .nil
  | _, _, .cons r t => .cons r (each_fst t)
theorem each_pd {h : Heap} : ∀ {us : List Value} {ds : List D}, EachIs (fun u d => ∃ as, Reads h u (pD d) as) us ds → EachIs (fun u k => ∃ as, Reads h u k as) us (ds.map pD)
  | _, _, .nil => .nil
  | _, _, .cons r t => .cons r (each_pd t)
section
variable {X : Cx} {W : WX}
def rSortK (fin : List D → Mem → R D) (X : Cx) (ad : Addr) (f : Fn) : List V → List V → Hp → VK → Prop := fun vs zs H Q => ∃ (W : XK) (F B : Hp) (ρ : List Addr) (M : Mem) (a : Addr) (xs : List V) (es : List D), vs = [V.ref a] ∧ zs = [V.ref ad] ∧ SqL X.K H a xs ∧ MR X.K F B ρ M H ∧ Rps X.K B ρ es xs ∧
  Wp X.K X.mg F B ρ W (fun d B' ρ' H' => ∀ v, Rp X.K B' ρ' d v → Q v H') ((keysR f es M).bind fun ks M3 => (R.of (sortK es ks) M3).bind fin)
/-- amid the keys -/
structure AtKey (fin : List D → Mem → R D) (X : Cx) (W : XK) (f : Fn) (pins : List (Addr × Obj)) (σ : L2.St) (Q : VK) (F B : Hp) (ρ : List Addr) (es : List D) (kS a : Addr) (e1 i : Nat) (s' : Shared) : Prop where
  ex : ∃ H B1 ρ1 M kA e dks vks, Inv (inX X) ([(kS, seqObj "list" kA e), (a, seqObj "list" #[] e1)] ++ pins) σ H s' ∧ Le B ρ B1 ρ1 ∧ MR X.K F B1 ρ1 M H ∧ Rps X.K B1 ρ1 dks vks ∧ Vals vks kA.toList ∧ dks.length = i ∧
    Wp X.K X.mg F B1 ρ1 W (fun d B' ρ' H' => ∀ v, Rp X.K B' ρ' d v → Q v H') ((keysR f (es.drop i) M).bind fun ks M3 => (R.of (sortK es (dks ++ ks)) M3).bind fin)
/-- a thing of ours, whatever the heap -/
structure Ours (X : Cx) (pins : List (Addr × Obj)) (b : Addr) : Prop where
  u : (b ∈ X.ex ∨ X.s_0.heap.objs.size ≤ b) ∧ (∀ x c, X.env.cells.lookup x = some c → c ≠ b) ∧ ∀ p ∈ X.pn ++ pins, p.1 ≠ b
theorem Ours.fp {pins : List (Addr × Obj)} {H : Hp} {b : Addr} (o : Ours X pins b) (h1 : H b = none) (h2 : b ≠ X.env.locals) (h3 : b ∉ X.fs) : FpOk (inX X) pins H b := ⟨h1, h2, h3, o.u⟩
theorem key_loop {W : XK} {fin : List D → Mem → R D} (hfin : FinOk fin) {k : Nat} {ad : Addr} {fd : FuncData} {ps : List Str} {f : Fn} {pins : List (Addr × Obj)} {σ : L2.St} {Q : VK} {F B : Hp} {ρ : List Addr} {es : List D} {xs : List V} {its : List Value} {kS a : Addr} {e1 : Nat} {s : Shared} {P : PySem.Fin → Shared → Prop} {E : Value → Shared → Prop}
    (Fo : FnOk X.prog X.w X.K X.mg X.base CX0 k ad fd ps (spF X.K X.mg 1 f)) (hr : Room (k + 2) X.A) (hb : Binds X.K fd ps []) (ok : X.Ok) (hka : kS ≠ a) (oK : Ours X pins kS) (oA : Ours X pins a) (hax : X.s_0.heap.objs.size ≤ a)
    (rs : Rps X.K B ρ es xs) (rv : Vals xs its) (hZ : its.length ≤ sizeLine) (st : AtKey fin X W f pins σ Q F B ρ es kS a e1 0 s)
    (hP : ∀ s', EP X pins σ Q (.ref a) s' → P (.done (.ret .none)) s') :
    wpAny (model X.prog X.w) X.A.in1.in1 (ksk_rest a (.ref ad) false its.toArray e1 (.ref kS)) P E s := by
  unfold ksk_rest
  refine wpAny_bind (wpAny_rule ?_)
  first
    | rw [List.forIn_toArray]
    | (rw [← Array.forIn_toList]; simp only [List.toList_toArray])
  have hel : es.length = its.length := by rw [rs.len]; exact rv.length
  refine wpAny_bind (ksk_fold (fun i s' => AtKey fin X W f pins σ Q F B ρ es kS a e1 i s') its 0 s st ?step ?done)
  case step =>
    rintro j u s' hu ⟨H, B1, ρ1, M, kA, e, dks, vks, I, l, m, rk, vk, hl, w⟩
    simp only [Nat.zero_add] at hl w ⊢
    have hj : j < its.length := (List.getElem?_eq_some_iff.mp hu).1
    have hje : j < es.length := by omega
    obtain ⟨x, hx, rx⟩ : ∃ x, xs[j]? = some x ∧ RelV x u := vals_get rv hu
    obtain ⟨d, hd, rd⟩ := rs.getV hx
    have ed : es.drop j = d :: es.drop (j + 1) := by
      rw [List.drop_eq_getElem_cons hje]
      congr 1
      have := List.getElem?_eq_getElem hje
      rw [this] at hd
      exact Option.some.inj hd
    rw [ed] at w
    unfold keysR at w
    rw [R.bind_assoc] at w
    have hkA : kA.size = j := by
      have h1 : vks.length = kA.toList.length := vk.length
      have h2 := rk.len
      have h3 : kA.toList.length = kA.size := Array.length_toList
      omega
    obtain ⟨pk1, pk2, pk3, pk4, _⟩ := I.pin (kS, seqObj "list" kA e) (List.mem_append_right _ (List.mem_append_left _ (by simp)))
    refine wpAny_bind (wpAny_attempt (wpAny_mono (run_fn (X := inX X) (E := E0) (Q := fun v' H' => ∃ kd M1 B2 ρ2, Le B1 ρ1 B2 ρ2 ∧ MR X.K F B2 ρ2 M1 H' ∧ Rp X.K B2 ρ2 kd v' ∧
        Wp X.K X.mg F B2 ρ2 W (fun d B' ρ' H' => ∀ v, Rp X.K B' ρ' d v → Q v H') (((keysR f (es.drop (j + 1)) M1).bind fun ks M2 => R.ok (kd :: ks) M2).bind fun ks M3 => (R.of (sortK es (dks ++ ks)) M3).bind fin))
      Fo hr.in1.in1 hb .nil passW I (.cons rx .nil) ?_) (fun v s'' he => ?_) fun _ _ z => z.elim))
    · refine ⟨_, [d], F, B1, ρ1, M, rfl, .cons (rd.mono l) .nil, m, w.bind fun kd M1 B2 ρ2 H2 l2 m2 w2 v' rv' => ?_⟩
      exact ⟨kd, M1, B2, ρ2, l2, m2, rv', w2⟩
    · obtain ⟨v', H2, I2, r2, kd, M1, B2, ρ2, l2, m2, rk2, w2⟩ := he
      obtain ⟨q1, q2, q3, q4, q5⟩ := I2.pin (kS, seqObj "list" kA e) (List.mem_append_right _ (List.mem_append_left _ (by simp)))
      obtain ⟨a1, a2, a3, a4, a5⟩ := I2.pin (a, seqObj "list" #[] e1) (List.mem_append_right _ (List.mem_append_left _ (by simp)))
      try dsimp only at q1 a1 q2 q3 q4 a2 a3 a4
      have s1 := Heap.SameBut.update s''.heap kS (Obj.mapSeq (·.push v))
      obtain ⟨c2, hc2⟩ : ∃ c2, (s''.heap.update kS (Obj.mapSeq (·.push v))).get? kS = some (seqObj "list" (kA.push v) c2) := ⟨_, get?_update_seq q1 (·.push v)⟩
      refine wpAny_bind (listUpdate_at q1 rfl ?_ (by omega) (Nat.le_trans (Nat.le_of_eq (Array.size_push ..)) (by omega)))
      refine wpAny_pure ⟨rfl, H2, B2, ρ2, M1, kA.push v, c2, dks ++ [kd], vks ++ [v'], ?_, l.trans l2, m2, (rk.mono l2).snoc rk2, ?_, by simp [hl], ?_⟩
      · have I3 : Inv (inX X) pins σ H2 s'' := I2.pins_of fun p hp => I2.pin p (List.mem_append_right _ (List.mem_append_right _ hp))
        have I4 : Inv (inX X) pins σ H2 { s'' with heap := s''.heap.update kS (Obj.mapSeq (·.push v)), toks := s''.toks } := I3.turnedL (ch := [kS]) (fun b o hb e => (s1.2 b (by simpa using hb)).trans e) fun b hb => by
          rw [List.mem_singleton.mp hb]
          exact oK.fp q2 q3 q4
        refine I4.pins_of fun p hp => ?_
        rcases List.mem_append.mp hp with hp | hp
        · rcases List.mem_cons.mp hp with rfl | hp
          · exact ⟨hc2, q2, q3, q4, fun v e => by cases e⟩
          · rw [List.mem_singleton.mp hp]
            exact ⟨(s1.2 a hka.symm).trans a1, a2, a3, a4, fun v e => by cases e⟩
        · exact I4.pin p (List.mem_append_right _ hp)
      · rw [Array.toList_push]
        exact vk.append (.cons r2 .nil)
      · rw [R.bind_assoc] at w2
        simpa using w2
  case done =>
    rintro s' ⟨H, B1, ρ1, M, kA, e, dks, vks, I, l, m, rk, vk, hl, w⟩
    simp only [Nat.zero_add] at hl w
    rw [List.drop_of_length_le (by omega)] at w
    unfold keysR at w
    rw [R.bind_ok, List.append_nil] at w
    obtain ⟨dz, hz, w⟩ : ∃ dz, sortK es dks = some dz ∧ Wp X.K X.mg F B1 ρ1 W (fun d B' ρ' H' => ∀ v, Rp X.K B' ρ' d v → Q v H') (fin dz M) := by
      cases hq : sortK es dks with
      | none => rw [hq] at w; exact w.elim
      | some dz => rw [hq] at w; exact ⟨dz, rfl, w⟩
    unfold sortK at hz
    split at hz
    · next hlen =>
      cases hp : toPs dks with
      | none => simp [hp] at hz
      | some pz =>
        simp only [hp, Option.bind_some] at hz
        split at hz
        · next hok =>
          obtain rfl := Option.some.inj hz
          obtain ⟨o1, o2, o3⟩ := sortOk_snd hok
          have em := pD_map hp
          obtain ⟨q1, q2, q3, q4, q5⟩ := I.pin (kS, seqObj "list" kA e) (List.mem_append_right _ (List.mem_append_left _ (by simp)))
          obtain ⟨a1, a2, a3, a4, a5⟩ := I.pin (a, seqObj "list" #[] e1) (List.mem_append_right _ (List.mem_append_left _ (by simp)))
          try dsimp only at q1 a1 q2 q3 q4 a2 a3 a4
          refine wpAny_bind (listItems_at q1 rfl ?_)
          have hk' : EachIs (fun v k => ∃ as, Reads s'.heap v k as) kA.toList pz := by
            rw [← em]
            exact each_pd (each_reads I m.ex rk vk hp)
          have hsz : kA.size = its.length := by
            have h1 : vks.length = kA.toList.length := vk.length
            have h2 := rk.len
            have h3 : kA.toList.length = kA.size := Array.length_toList
            omega
          have hun := hr.un
          refine PySem.W.keyH_end (κ := PySem.W.dataKind s'.heap pz) (h₁ := holeAt s'.heap kS) (fun b o hb q => ?_) (hole_none _ _) q1 a1 hka (PySem.W.SortsAt.data hk' o1 o2 fun d hd => ?_) hsz hZ fun h3 tk3 c k3 n3 => hP _ ?_
          · by_cases hbk : b = kS
            · rw [hbk, hole_none] at q; cases q
            · rw [hole_ne hbk] at q; exact q
          · have := o3 d hd
            show X.A.units + 1 + 1 + _ < _
            omega
          · have ezip : (es.zip dks).map (fun p : D × D => pD p.2) = pz := by
              have e1 : (es.zip dks).map (fun p : D × D => pD p.2) = ((es.zip dks).map Prod.snd).map pD := by rw [List.map_map]; rfl
              rw [e1, List.map_snd_zip (by omega), em]
            have ko : PySem.W.KeyedOut false ((es.zip dks).map fun p : D × D => pD p.2) its (PySem.W.sortVals (PySem.W.dataKind s'.heap pz) false kA.toList its) := by
              rw [ezip]
              exact ⟨s'.heap, kA.toList, o1, rfl, hk'⟩
            have eo := each_fst (PySem.W.keyedOut_each (fun p : D × D => pD p.2) ko (each_zip (each_std (rs.mono l) rv) hlen))
            obtain ⟨ys, ry, rd⟩ := std_each eo
            have I3 : Inv (inX X) pins σ H s' := I.pins_of fun p hp => I.pin p (List.mem_append_right _ (List.mem_append_right _ hp))
            have I4 : Inv (inX X) pins σ H { s' with heap := h3, toks := tk3 } := I3.turnedL (ch := [kS, a]) (fun b o hb e => k3 b o (fun z => hb (by simp [z])) (by rw [hole_ne (fun z => hb (by simp [z]))]; exact e)) fun b hb => by
              rcases List.mem_cons.mp hb with rfl | hb
              · exact oK.fp q2 q3 q4
              · rw [List.mem_singleton.mp hb]
                exact oA.fp a2 a3 a4
            have hlo := ko.length (by rw [List.length_map, List.length_zip]; omega)
            have I5 : Inv (inX X) pins σ (upd H a (.lst ys)) { s' with heap := h3, toks := tk3 } := inv_track I4 (oA.fp a2 a3 a4) hax ⟨by have := ry.length; omega, _, c, ry, n3⟩
            exact ⟨.ref a, _, inv_out ok I5, rfl, hfin X.K X.mg W F B1 H ρ1 M _ ys Q m rd w a a2⟩
        · cases hz
    · cases hz
theorem ours_of {pins : List (Addr × Obj)} {σ : L2.St} {H : Hp} {s : Shared} {b : Addr} (I : Inv X pins σ H s) (hb : s.heap.objs.size ≤ b) : Ours X pins b := ⟨(I.fpOk hb (I.hok.fresh hb)).2.2.2⟩
theorem cr_sortK {fin : List D → Mem → R D} (hfin : FinOk fin) {k : Nat} {ad : Addr} {fd : FuncData} {ps : List Str} {f : Fn} (Fo : FnOk X.prog X.w X.K X.mg X.base CX0 k ad fd ps (spF X.K X.mg 1 f)) (hr : Room (k + 2) X.A) (hb : Binds X.K fd ps []) :
    CallRK X (.builtin "sorted") [Str.ofString "key"] (rSortK fin X ad f) := by
  intro pins s σ H vs zs us ws Q I r r2 h
  obtain ⟨W, F, B, ρ, M, a, xs, es, rfl, rfl, hs, m, rs, w⟩ := h
  obtain ⟨its, rv, hl, hz⟩ := I.list hs
  obtain ⟨u, rfl, ru⟩ := vals1 r
  obtain rfl : u = Value.ref a := ru
  obtain ⟨u2, rfl, ru2⟩ := vals1 r2
  obtain rfl : u2 = Value.ref ad := ru2
  have hZ : its.length ≤ sizeLine := by
    have : xs.length = its.length := rv.length
    omega
  refine PySem.W.sorted_of_sort (Q := EP X pins σ Q) hl.isList hZ (ksk_s1 _ _) (fun _ => ksk_l1 _ _) fun E' => ?_
  rw [show ([Str.ofString "key"].zip [Value.ref ad]) = [(Str.ofString "key", Value.ref ad)] from rfl, ksk_t1]
  have hA := PySem.W.copyHeap_at s.heap its
  have hsz : (PySem.W.copyHeap s.heap its).objs.size = s.heap.objs.size + 2 := by
    unfold PySem.W.copyHeap
    rw [size_push', Heap.size_update, size_push']
  generalize eA : s.heap.objs.size + 1 = A1 at hA ⊢
  obtain ⟨e1, ho1⟩ : ∃ e1, ((PySem.W.copyHeap s.heap its).update A1 (Obj.mapSeq fun _ => (#[] : Array Value))).get? A1 = some (seqObj "list" #[] e1) := ⟨_, get?_update_seq hA fun _ => #[]⟩
  have hkS : (((PySem.W.copyHeap s.heap its).update A1 (Obj.mapSeq fun _ => (#[] : Array Value))).push (seqObj "tuple" its.toArray 0)).objs.size = s.heap.objs.size + 3 := by rw [size_push', Heap.size_update, hsz]
  unfold ksk_tree
  refine wpAny_bind (listItems_at hA rfl ?_)
  refine wpAny_bind (listUpdate_at hA rfl ?_ (by rw [List.size_toArray]; exact hZ) (Nat.zero_le _))
  refine wpAny_bind (seqEpoch_at ho1 rfl ?_)
  refine wpAny_bind (wpAny_newTuple ?_ (by show its.length ≤ _; exact hZ))
  refine wpAny_bind (wpAny_newList ?_ (Nat.zero_le _))
  refine wpAny_holding ?_
  have kp : ∀ b o, s.heap.get? b = some o → (PySem.W.sortingHeap (PySem.W.copyHeap s.heap its) A1 its).get? b = some o := fun b o q => by
    rw [← eA]
    exact PySem.W.sorting_copy_old q
  have I1 : Inv (inX X) pins σ H { s with heap := PySem.W.sortingHeap (PySem.W.copyHeap s.heap its) A1 its, toks := s.toks } := inv_in (I.kept kp)
  have oK := ours_of I (b := s.heap.objs.size + 3) (by omega)
  have oA := ours_of I (b := A1) (by omega)
  have fK := I.fpOk (b := s.heap.objs.size + 3) (by omega) (I.hok.fresh (by omega))
  have fA := I.fpOk (b := A1) (by omega) (I.hok.fresh (by omega))
  show wpAny (model X.prog X.w) X.A.in1.in1 (ksk_rest A1 (.ref ad) false its.toArray e1 (.ref (((PySem.W.copyHeap s.heap its).update A1 (Obj.mapSeq fun _ => (#[] : Array Value))).push (seqObj "tuple" its.toArray 0)).objs.size)) _ _ { s with heap := PySem.W.sortingHeap (PySem.W.copyHeap s.heap its) A1 its }
  have gK : (PySem.W.sortingHeap (PySem.W.copyHeap s.heap its) A1 its).get? (s.heap.objs.size + 3) = some (seqObj "list" #[] 0) := by
    rw [← hkS]
    exact Heap.get?_push_size _ rfl
  have gA : (PySem.W.sortingHeap (PySem.W.copyHeap s.heap its) A1 its).get? A1 = some (seqObj "list" #[] e1) := Heap.get?_push_of_some _ (Heap.get?_push_of_some _ ho1)
  have hne : s.heap.objs.size + 3 ≠ A1 := by omega
  rw [hkS]
  refine key_loop hfin (W := W) (Q := Q) (F := F) (B := B) (ρ := ρ) (es := es) (xs := xs) (σ := σ) (pins := pins) Fo hr hb I.ok hne oK oA (by have := I.sz; omega) rs rv hZ ⟨H, B, ρ, M, #[], 0, [], [], ?_, Le.refl _ _, m, .nil, .nil, rfl, ?_⟩ fun s' z => ⟨rfl, z⟩
  · refine I1.pins_of fun p hp => ?_
    rcases List.mem_append.mp hp with hp | hp
    · rcases List.mem_cons.mp hp with rfl | hp
      · exact ⟨gK, fK.1, fK.2.1, fK.2.2.1, fun v e => by cases e⟩
      · rw [List.mem_singleton.mp hp]
        exact ⟨gA, fA.1, fA.2.1, fA.2.2.1, fun v e => by cases e⟩
    · exact I1.pin p (List.mem_append_right _ hp)
  · simpa using w
theorem de_sortK {fin : List D → Mem → R D} {k : Nat} {xf : Str} {f : Fn} {e : Expr} {fe : XE} {p p2 kpos pos : Pos} (hfin : FinOk fin) (G : FnD X.prog X.w X.K X.mg X.base k xf 1 f) (hr : Room (k + 2) X.A) (hgf : Gl X xf) (hg : Gl X "sorted") (hm : X.mg "sorted" = none) (ha : DE X W e fe)
    (hd : (xf == ("__debug__" : Str)) = false := by decide)
    (he : backTo pos (starEach [e] X.env) = (false, eval e X.env) :: backTo pos (starEach [] X.env) := by rfl) (hpl : (backTo pos (starEach [e] X.env)).any (·.1) = false := by rfl)
    (hall : (backToKw pos (keywordEach [⟨some (Str.ofString "key"), .Name xf p2, kpos⟩] X.env)).all (·.1.isSome) = true := by rfl) (hnone : (backToKw pos (keywordEach [⟨some (Str.ofString "key"), .Name xf p2, kpos⟩] X.env)).any (·.1.isNone) = false := by rfl) (hks : (backToKw pos (keywordEach [⟨some (Str.ofString "key"), .Name xf p2, kpos⟩] X.env)).filterMap (·.1) = [Str.ofString "key"] := by rfl)
    (hs : starEach [e] X.env = [(false, eval e X.env)] := by rfl) :
    DE X W (.Call (.Name "sorted" p) [e] [⟨some (Str.ofString "key"), .Name xf p2, kpos⟩] pos) (xSortK fin f fe) := by
  obtain ⟨ad, fd, ps, Fo, hmf, hk, hb⟩ := G.ex
  have dn : DE X W (.Name xf p2) (xC (dOf (V.ref ad))) := de_glob hgf hmf (show RelV (.ref ad) (.ref ad) from rfl) hd
  refine PE.imp (pe_callBK (cr_sortK hfin Fo hr hb) hg hm bt_sorted (da_cons ha da_nil hs) (dk_cons dn dk_nil).pk (by decide) (by decide) he hpl hall hnone hks) fun σ H Q z => ?_
  obtain ⟨η, F, B, ρ, M, er, m, w⟩ := z
  unfold xSortK at w
  refine ⟨η, F, B, ρ, M, er, m, ?_⟩
  have e1 : xCons fe xNil η M = (fe η M).bind fun d M1 => .ok [d] M1 := rfl
  rw [e1]
  have w' : Wp X.K X.mg F B ρ (wAt W σ) (fun d B' ρ' H' => ∀ v, Rp X.K B' ρ' d v → Q v H') (((fe η M).bind fun d M1 => R.ok [d] M1).bind fun ds M1 => match ds with
    | [d] => (R.of (asL M1 d) M1).bind fun es M2 => (keysR f es M2).bind fun ks M3 => (R.of (sortK es ks) M3).bind fin
    | _ => .no) := by
    rw [R.bind_assoc]
    exact w
  refine w'.bind fun ds M1 B1 ρ1 H1 l1 m1 w1 vs rvs => ?_
  cases rvs with
  | nil => exact w1.elim
  | @cons d0 _ _ _ rd rr =>
    cases rr with
    | cons _ _ => exact w1.elim
    | nil =>
      refine ⟨η, F, B1, ρ1, M1, er.mono l1, m1, ?_⟩
      have w2 := w1
      obtain ⟨es, he', w3⟩ : ∃ es, asL M1 d0 = some es ∧ Wp X.K X.mg F B1 ρ1 (wAt W σ) _ ((keysR f es M1).bind fun ks M3 => (R.of (sortK es ks) M3).bind fin) := by
        cases hq : asL M1 d0 with
        | none => dsimp only at w2; rw [hq] at w2; exact w2.elim
        | some es => dsimp only at w2; rw [hq] at w2; exact ⟨es, rfl, w2⟩
      intro B2 ρ2 H2 l2 m2 zs rz
      cases rz with
      | cons rz1 rz2 =>
        cases rz2
        have ez : dOf (V.ref ad) = .raw (.ref ad) := rfl
        rw [ez] at rz1
        cases rz1
        obtain ⟨a, xs, rfl, hs', rs⟩ := asL_snd m2 (rd.mono l2) he'
        exact ⟨_, F, B2, ρ2, M1, a, xs, es, rfl, rfl, hs', m2, rs, w3.mono l2⟩
end
end Dn

/-! DnMore: range(a, b), sum, any, in, == with things that may change, append and reverse, name = [..] -/
namespace Dn
open PySem PyProof.Rows L2 Evl
section
variable {X : Cx} {W : WX} {a b c e o tg it : Expr} {es : List Expr} {f g k : XE} {fa : XA} {p : XT} {pos apos : Pos}
/-! ### range(a, b) -/
def xRng2 (g : XA) : XI := fun η M => (g η M).bind fun ds M1 => match ds with
  | [.int i, .int j] => if -(2 ^ 62) ≤ i ∧ i < 2 ^ 62 ∧ -(2 ^ 62) ≤ j ∧ j < 2 ^ 62 then .ok ((List.range (j - i).toNat).map fun q => .int (i + (q : Nat))) M1 else .no
  | _ => .no
theorem walk_rng2 {K : PySem.W.Frag} {B : Hp} {ρ : List Addr} {lo : Int} {n : Nat} : WalkD K (Itr lo n) B ρ ((List.range n).map fun q => .int (lo + (q : Nat))) := by
  refine ⟨⟨fun _ => True, _, by simpa using walk_range, fun _ _ => trivial, fun i d h F B1 ρ1 M H x H2 l m y => ?_⟩⟩
  obtain ⟨rfl, rfl⟩ := y
  refine ⟨B1, Le.refl _ _, m, ?_, Ex.refl _⟩
  rw [List.getElem?_map] at h
  cases hr : (List.range n)[i]? with
  | none => rw [hr] at h; cases h
  | some q =>
    rw [hr] at h
    simp at h
    have : q = i := by
      have := (List.getElem?_eq_some_iff.mp hr).2
      simpa using this.symm
    subst this
    rw [← h]
    exact Rp.int (K := K) (B := B1) (ρ := ρ1) (lo + ((q : Nat) : Int))
theorem di_range2 {p0 pos : Pos} (hg : Gl X "range") (hm : X.mg "range" = none) (ha : DA X W [a, b] fa) (hs : starEach [a, b] X.env = [(false, eval a X.env), (false, eval b X.env)] := by rfl) (hs2 : starEach [b] X.env = [(false, eval b X.env)] := by rfl) :
    DI X W tg (.Call (.Name "range" p0) [a, b] [] pos) (xRng2 fa) :=
  PI.imp (pi_range2 hg hm ha hs hs2) fun σ H Q z => by
    obtain ⟨η, F, B, ρ, M, er, m, w⟩ := z
    refine ⟨η, F, B, ρ, M, er, m, w.bind fun ds M1 B1 ρ1 H1 l1 m1 w1 vs rv => ?_⟩
    split at w1
    · next i j =>
      split at w1
      · next hj =>
        cases rv with
        | cons r rr =>
          cases rr with
          | cons r' rr =>
            cases rr
            cases r
            cases r'
            exact ⟨i, j, rfl, hj, Wp.ret w1 m1 _ walk_rng2⟩
      · exact w1.elim
    · exact w1.elim
/-! ### sum, any -/
def asIs : List D → Option (List Int)
  | [] => some []
  | d :: ds => (asI d).bind fun b => (asIs ds).map (b :: ·)
theorem asIs_snd {K : PySem.W.Frag} {B : Hp} {ρ : List Addr} : ∀ {ds : List D} {vs : List V} {bs : List Int}, Rps K B ρ ds vs → asIs ds = some bs → vs = bs.map V.int
  | _, _, _, .nil, h => by cases h; rfl
  | _, _, bs, .cons (d := d) (ds := ds) r t, h => by
    unfold asIs at h
    cases h1 : asI d with
    | none => simp [h1] at h
    | some b =>
      cases h2 : asIs ds with
      | none => simp [h1, h2] at h
      | some cs =>
        simp [h1, h2] at h
        subst h
        rw [asIs_snd t h2, asI_snd r h1]
        rfl
def bSum : OpC := one fun M d => (asL M d).bind fun ds => (asIs ds).map fun ns => .int ns.sum
theorem cd_sum (hc : X.calm = true) : CallD X (.builtin "sum") bSum := by
  refine ⟨_, cr_sum hc, fun F B ρ M H xs ds dz Q m rx e k => ?_⟩
  obtain ⟨d, rfl, h⟩ := one_some e
  cases rx with
  | cons r rr =>
    cases rr
    cases h1 : asL M d with
    | none => simp [h1] at h
    | some es =>
      cases h2 : asIs es with
      | none => simp [h1, h2] at h
      | some bs =>
        simp only [h1, h2, Option.bind_some, Option.map_some] at h
        obtain rfl := Option.some.inj h
        obtain ⟨a, vs, rfl, hs, rs⟩ := asL_snd m r h1
        have := asIs_snd rs h2
        subst this
        exact ⟨a, bs, rfl, hs, k.same m (.int _)⟩
def bAny : OpC := one fun M d => (asL M d).bind fun ds => (asBs ds).map fun bs => .bl (bs.any id)
theorem cd_any (hc : X.calm = true) : CallD X (.builtin "any") bAny := by
  refine ⟨_, cr_any hc, fun F B ρ M H xs ds dz Q m rx e k => ?_⟩
  obtain ⟨d, rfl, h⟩ := one_some e
  cases rx with
  | cons r rr =>
    cases rr
    cases h1 : asL M d with
    | none => simp [h1] at h
    | some es =>
      cases h2 : asBs es with
      | none => simp [h1, h2] at h
      | some bs =>
        simp only [h1, h2, Option.bind_some, Option.map_some] at h
        obtain rfl := Option.some.inj h
        obtain ⟨a, vs, rfl, hs, rs⟩ := asL_snd m r h1
        have := asBs_snd rs h2
        subst this
        exact ⟨a, bs, rfl, hs, k.same m (.bl _)⟩
theorem bt_sum : bootBuiltins "sum" = some (.builtin "sum") := by decide +kernel
theorem bt_any : bootBuiltins "any" = some (.builtin "any") := by decide +kernel
/-! ### == with things that may change -/
def toPM (M : Mem) : D → Option PyData
  | .ptr n => match M[n]? with
    | some (.lst ds) => (toPs ds).map PyData.list
    | _ => none
  | d => toP d
theorem toPM_snd {K : PySem.W.Frag} {F B H : Hp} {ρ : List Addr} {M : Mem} (m : MR K F B ρ M H) {d : D} {v : V} {p : PyData} (r : Rp K B ρ d v) (h : toPM M d = some p) : Dp K H v p := by
  cases r with
  | @ptr n a ha =>
    have h' : (match M[n]? with | some (.lst ds) => (toPs ds).map PyData.list | _ => none) = some p := h
    split at h'
    · next ds hm =>
      obtain ⟨vs, hH, rs, hB⟩ := m.list ha hm
      cases hp : toPs ds with
      | none => simp [hp] at h'
      | some ps =>
        simp [hp] at h'
        subst h'
        exact .lst (sq_of hH) (toPs_snd m.ex rs hp)
    · cases h'
  | non => exact toP_snd (ρ := ρ) m.ex .non h
  | bl b => exact toP_snd (ρ := ρ) m.ex (.bl b) h
  | int b => exact toP_snd (ρ := ρ) m.ex (.int b) h
  | str b => exact toP_snd (ρ := ρ) m.ex (.str b) h
  | lst e q => exact toP_snd m.ex (.lst e q) h
  | tup e q z => exact toP_snd m.ex (.tup e q z) h
  | dct e q => exact toP_snd m.ex (.dct e q) h
  | dcT e q => exact toP_snd m.ex (.dcT e q) h
  | ins c e q => exact toP_snd m.ex (.ins c e q) h
  | fn c => exact toP_snd (ρ := ρ) m.ex (.fn c) h
  | scr e => exact toP_snd (ρ := ρ) m.ex (.scr e) h
  | raw v => exact toP_snd (ρ := ρ) m.ex (.raw v) h
mutual
theorem toP_plain : ∀ {d : D} {p : PyData}, toP d = some p → p.plain = true
  | .non, _, h => by unfold toP at h; cases h; rfl
  | .bl _, _, h => by unfold toP at h; cases h; rfl
  | .int _, _, h => by unfold toP at h; cases h; rfl
  | .str _, _, h => by unfold toP at h; cases h; rfl
  | .lst ds, _, h => by
    unfold toP at h
    cases hp : toPs ds with
    | none => simp [hp] at h
    | some ps => simp [hp] at h; subst h; simp only [PyData.plain]; exact toPs_plain hp
  | .tup ds, _, h => by
    unfold toP at h
    cases hp : toPs ds with
    | none => simp [hp] at h
    | some ps => simp [hp] at h; subst h; simp only [PyData.plain]; exact toPs_plain hp
  | .dct _, _, h => by unfold toP at h; cases h
  | .dcT _, _, h => by unfold toP at h; cases h
  | .ins _ _, _, h => by unfold toP at h; cases h
  | .fn _, _, h => by unfold toP at h; cases h
  | .scr _, _, h => by unfold toP at h; cases h
  | .ptr _, _, h => by unfold toP at h; cases h
  | .raw _, _, h => by unfold toP at h; cases h
theorem toPs_plain : ∀ {ds : List D} {ps : List PyData}, toPs ds = some ps → PyData.plainAll ps = true
  | [], _, h => by unfold toPs at h; cases h; rfl
  | d :: ds, _, h => by
    unfold toPs at h
    cases h1 : toP d with
    | none => simp [h1] at h
    | some p =>
      cases h2 : toPs ds with
      | none => simp [h1, h2] at h
      | some ps =>
        simp [h1, h2] at h
        subst h
        simp only [PyData.plainAll, toP_plain h1, toPs_plain h2, Bool.and_self]
end
theorem toPM_plain {M : Mem} {d : D} {p : PyData} (h : toPM M d = some p) : p.plain = true := by
  unfold toPM at h
  split at h
  · split at h
    · next ds _ =>
      cases hp : toPs ds with
      | none => simp [hp] at h
      | some ps => simp [hp] at h; subst h; simp only [PyData.plain]; exact toPs_plain hp
    · cases h
  · exact toP_plain h
def eqM (neg : Bool) : Op2 := fun M x y => (toPM M x).bind fun p => (toPM M y).bind fun q => if p.depth ≤ 60 then some (.bl (if neg then !PyData.eqv p q else PyData.eqv p q)) else none
theorem eqM_some {neg : Bool} {M : Mem} {x y z : D} (h : eqM neg M x y = some z) : ∃ p q, toPM M x = some p ∧ toPM M y = some q ∧ p.depth ≤ 60 ∧ z = .bl (if neg then !PyData.eqv p q else PyData.eqv p q) := by
  unfold eqM at h
  cases h1 : toPM M x with
  | none => simp [h1] at h
  | some p =>
    cases h2 : toPM M y with
    | none => simp [h1, h2] at h
    | some q =>
      simp only [h1, h2, Option.bind_some] at h
      split at h
      · next hs => exact ⟨p, q, rfl, rfl, hs, (Option.some.inj h).symm⟩
      · cases h
def rEqP (K : PySem.W.Frag) (neg : Bool) : R2 := fun x y H Q => ∃ p q, Dp K H x p ∧ Dp K H y q ∧ p.plain = true ∧ q.plain = true ∧ p.depth ≤ 60 ∧ Q (.bl (if neg then !PyData.eqv p q else PyData.eqv p q)) H
theorem op_eqP {k : Nat} (hr : Room k X.A) : OpR X (compareOp .Eq) (rEqP X.K false) := by
  intro pins s σ H x y v u Q I rx ry h
  obtain ⟨p, q, hp, hq, pp, pq, hd, z⟩ := h
  obtain ⟨as, r1⟩ := Dp.reads I p x v hp rx
  obtain ⟨bs, r2⟩ := Dp.reads I q y u hq ry
  have hu := hr.un
  exact PySem.SeqAt.eq_plain r1 r2 pp pq (by omega) ⟨.bl _, H, I, rfl, z⟩
theorem op_neP {k : Nat} (hr : Room k X.A) : OpR X (compareOp .NotEq) (rEqP X.K true) := by
  intro pins s σ H x y v u Q I rx ry h
  obtain ⟨p, q, hp, hq, pp, pq, hd, z⟩ := h
  obtain ⟨as, r1⟩ := Dp.reads I p x v hp rx
  obtain ⟨bs, r2⟩ := Dp.reads I q y u hq ry
  have hu := hr.un
  exact PySem.SeqAt.ne_plain r1 r2 pp pq (by omega) ⟨.bl _, H, I, rfl, z⟩
theorem od_eqM {k : Nat} (hr : Room k X.A) : OpD X (compareOp .Eq) (eqM false) := by
  refine ⟨_, op_eqP hr, fun F B ρ M H x y dx dy dz Q m rx ry e k => ?_⟩
  obtain ⟨p, q, h1, h2, h3, rfl⟩ := eqM_some e
  exact ⟨p, q, toPM_snd m rx h1, toPM_snd m ry h2, toPM_plain h1, toPM_plain h2, h3, k.same m (.bl _)⟩
theorem od_neM {k : Nat} (hr : Room k X.A) : OpD X (compareOp .NotEq) (eqM true) := by
  refine ⟨_, op_neP hr, fun F B ρ M H x y dx dy dz Q m rx ry e k => ?_⟩
  obtain ⟨p, q, h1, h2, h3, rfl⟩ := eqM_some e
  exact ⟨p, q, toPM_snd m rx h1, toPM_snd m ry h2, toPM_plain h1, toPM_plain h2, h3, k.same m (.bl _)⟩
/-- a tuple == () -/
def rEqT0 (K : PySem.W.Frag) : R2 := fun x y H Q => ∃ (a b : Addr) (xs : List V), x = .ref a ∧ y = .ref b ∧ SqT K H a xs ∧ SqT K H b [] ∧ Q (.bl (decide (xs.length = 0))) H
def eqT0 : Op2 := fun _ x y => match x, y with
  | .tup ds, .tup [] => some (.bl (decide (ds.length = 0)))
  | _, _ => none
theorem op_eqT0 {k : Nat} (hr : Room k X.A) : OpR X (compareOp .Eq) (rEqT0 X.K) := by
  intro pins s σ H x y v u Q I rx ry h
  obtain ⟨a, b, xs, rfl, rfl, hs, ht, q⟩ := h
  cases rx
  cases ry
  obtain ⟨its, r, pl, hz⟩ := I.tuple hs
  obtain ⟨it2, r2, pl2, hz2⟩ := I.tuple ht
  cases r2
  have hu := hr.un
  have hl : xs.length = its.length := r.length
  refine SeqAt.eq_tupleAt (e := fun _ => true) pl pl2 (by omega) (fun j h1 h2 => absurd h2 (by simp)) ⟨.bl (decide (xs.length = 0)), H, I, ?_, q⟩
  show _ = Value.bool _
  congr 1
  rw [hl]
  cases its <;> simp
theorem od_eqT0 {k : Nat} (hr : Room k X.A) : OpD X (compareOp .Eq) eqT0 := by
  refine ⟨_, op_eqT0 hr, fun F B ρ M H x y dx dy dz Q m rx ry e k => ?_⟩
  unfold eqT0 at e
  split at e
  · next ds =>
    obtain rfl := Option.some.inj e
    obtain ⟨a, vs, rfl, hs, rs⟩ := asT_snd m rx (ds := ds) rfl
    obtain ⟨b, us, rfl, ht, rt⟩ := asT_snd m ry (ds := []) rfl
    cases rt
    refine ⟨a, b, vs, rfl, rfl, hs, ht, ?_⟩
    rw [← rs.len]
    exact k.same m (.bl _)
  · cases e
def dEq : Op2 := oOr (eqM false) eqT0
theorem od_eq2 {k : Nat} (hr : Room k X.A) : OpD X (compareOp .Eq) dEq := (od_eqM hr).or (od_eqT0 hr)
/-! ### in -/
def flatD : D → Option V
  | .non => some .non
  | .bl b => some (.bl b)
  | .int i => some (.int i)
  | .str s => some (.str s)
  | _ => none
theorem flatD_snd {K : PySem.W.Frag} {B : Hp} {ρ : List Addr} {d : D} {v u : V} (r : Rp K B ρ d v) (h : flatD d = some u) : v = u ∧ flatV u = true := by
  cases r <;> simp [flatD] at h <;> subst h <;> exact ⟨rfl, rfl⟩
def flatDs : List D → Option (List V)
  | [] => some []
  | d :: ds => (flatD d).bind fun b => (flatDs ds).map (b :: ·)
theorem flatDs_snd {K : PySem.W.Frag} {B : Hp} {ρ : List Addr} : ∀ {ds : List D} {vs us : List V}, Rps K B ρ ds vs → flatDs ds = some us → vs = us ∧ us.all flatV = true
  | _, _, _, .nil, h => by cases h; exact ⟨rfl, rfl⟩
  | _, _, _, .cons (d := d) (ds := ds) r t, h => by
    unfold flatDs at h
    cases h1 : flatD d with
    | none => simp [h1] at h
    | some b =>
      cases h2 : flatDs ds with
      | none => simp [h1, h2] at h
      | some cs =>
        simp [h1, h2] at h
        subst h
        obtain ⟨rfl, q⟩ := flatDs_snd t h2
        obtain ⟨rfl, q2⟩ := flatD_snd r h1
        exact ⟨rfl, by rw [List.all_cons, q2, q]; rfl⟩
def seqD (M : Mem) (d : D) : Option (List D) := match asL M d with
  | some ds => some ds
  | none => asT d
def inF (neg : Bool) : Op2 := fun M x y => (flatD x).bind fun v => (seqD M y).bind fun ds => (flatDs ds).map fun us => .bl (if neg then !inV v us else inV v us)
theorem inF_snd {neg : Bool} {K : PySem.W.Frag} : OSnd K (rIn K neg) (inF neg) := fun F B ρ M H x y dx dy dz Q m rx ry e k => by
  unfold inF at e
  cases h1 : flatD dx with
  | none => simp [h1] at e
  | some v =>
    cases h2 : seqD M dy with
    | none => simp [h1, h2] at e
    | some ds =>
      cases h3 : flatDs ds with
      | none => simp [h1, h2, h3] at e
      | some us =>
        simp only [h1, h2, h3, Option.bind_some, Option.map_some] at e
        obtain rfl := Option.some.inj e
        obtain ⟨rfl, fx⟩ := flatD_snd rx h1
        unfold seqD at h2
        split at h2
        · next es he =>
          cases h2
          obtain ⟨a, vs, rfl, hs, rs⟩ := asL_snd m ry he
          obtain ⟨rfl, fs⟩ := flatDs_snd rs h3
          exact ⟨a, _, rfl, .inl hs, fx, fs, k.same m (.bl _)⟩
        · obtain ⟨a, vs, rfl, hs, rs⟩ := asT_snd m ry h2
          obtain ⟨rfl, fs⟩ := flatDs_snd rs h3
          exact ⟨a, _, rfl, .inr hs, fx, fs, k.same m (.bl _)⟩
def inD (neg : Bool) : Op2 := fun M x y => (toP x).bind fun p => (toPM M y).bind fun q => match q with
  | .list ps => if p.depth ≤ 60 then some (.bl (if neg then !ps.any fun z => PyData.eqv z p else ps.any fun z => PyData.eqv z p)) else none
  | .tuple ps => if p.depth ≤ 60 then some (.bl (if neg then !ps.any fun z => PyData.eqv z p else ps.any fun z => PyData.eqv z p)) else none
  | _ => none
theorem inD_some {neg : Bool} {M : Mem} {x y z : D} (h : inD neg M x y = some z) : ∃ p q ps, toP x = some p ∧ toPM M y = some q ∧ (q = .list ps ∨ q = .tuple ps) ∧ p.depth ≤ 60 ∧ z = .bl (if neg then !ps.any fun z => PyData.eqv z p else ps.any fun z => PyData.eqv z p) := by
  unfold inD at h
  cases h1 : toP x with
  | none => simp [h1] at h
  | some p =>
    cases h2 : toPM M y with
    | none => simp [h1, h2] at h
    | some q =>
      simp only [h1, h2, Option.bind_some] at h
      split at h
      · next ps =>
        split at h
        · next hs => exact ⟨p, _, ps, rfl, rfl, .inl rfl, hs, (Option.some.inj h).symm⟩
        · cases h
      · next ps =>
        split at h
        · next hs => exact ⟨p, _, ps, rfl, rfl, .inr rfl, hs, (Option.some.inj h).symm⟩
        · cases h
      · cases h
def rInP (K : PySem.W.Frag) (neg : Bool) : R2 := fun x y H Q => ∃ p q ps, Dp K H x p ∧ Dp K H y q ∧ (q = .list ps ∨ q = .tuple ps) ∧ p.plain = true ∧ PyData.plainAll ps = true ∧ p.depth ≤ 60 ∧ Q (.bl (if neg then !ps.any fun z => PyData.eqv z p else ps.any fun z => PyData.eqv z p)) H
theorem op_inP {k : Nat} (hr : Room k X.A) : OpR X (compareOp .In) (rInP X.K false) := by
  intro pins s σ H x y v u Q I rx ry h
  obtain ⟨p, q, ps, hp, hq, hl, pp, pq, hd, z⟩ := h
  obtain ⟨as, r1⟩ := Dp.reads I p x v hp rx
  obtain ⟨bs, r2⟩ := Dp.reads I q y u hq ry
  have hu := hr.un
  rcases hl with rfl | rfl
  · exact PySem.SeqAt.in_list_data r2 r1 pq pp (by omega) ⟨.bl _, H, I, rfl, z⟩
  · exact PySem.SeqAt.in_tuple_data r2 r1 pq pp (by omega) ⟨.bl _, H, I, rfl, z⟩
theorem op_notInP {k : Nat} (hr : Room k X.A) : OpR X (compareOp .NotIn) (rInP X.K true) := by
  intro pins s σ H x y v u Q I rx ry h
  obtain ⟨p, q, ps, hp, hq, hl, pp, pq, hd, z⟩ := h
  obtain ⟨as, r1⟩ := Dp.reads I p x v hp rx
  obtain ⟨bs, r2⟩ := Dp.reads I q y u hq ry
  have hu := hr.un
  rcases hl with rfl | rfl
  · exact PySem.SeqAt.notIn_list_data r2 r1 pq pp (by omega) ⟨.bl _, H, I, rfl, z⟩
  · exact PySem.SeqAt.notIn_tuple_data r2 r1 pq pp (by omega) ⟨.bl _, H, I, rfl, z⟩
theorem inD_snd {K : PySem.W.Frag} {neg : Bool} : OSnd K (rInP K neg) (inD neg) := fun F B ρ M H x y dx dy dz Q m rx ry e k => by
  obtain ⟨p, q, ps, h1, h2, hl, h3, rfl⟩ := inD_some e
  refine ⟨p, q, ps, toP_snd m.ex rx h1, toPM_snd m ry h2, hl, toP_plain h1, ?_, h3, k.same m (.bl _)⟩
  have := toPM_plain h2
  rcases hl with rfl | rfl <;> (simp only [PyData.plain] at this; exact this)
theorem od_inD {k : Nat} (hr : Room k X.A) : OpD X (compareOp .In) (inD false) := ⟨_, op_inP hr, inD_snd⟩
theorem od_notInD {k : Nat} (hr : Room k X.A) : OpD X (compareOp .NotIn) (inD true) := ⟨_, op_notInP hr, inD_snd⟩
def dIn : Op2 := oOr dInS (oOr (inF false) (inD false))
theorem od_in {k : Nat} (hr : Room k X.A) : OpD X (compareOp .In) dIn := od_inS.or (OpD.or ⟨_, op_in_seq, inF_snd⟩ (od_inD hr))
def dNotIn : Op2 := oOr (inF true) (inD true)
theorem od_notIn {k : Nat} (hr : Room k X.A) : OpD X (compareOp .NotIn) dNotIn := OpD.or ⟨_, op_notIn_seq, inF_snd⟩ (od_notInD hr)
/-! ### lists that change -/
def xAppend (f g : XE) : XE := fun η M => (f η M).bind fun d M1 => match d with
  | .ptr n => match M1[n]? with
    | some (.lst _) => (g η M1).bind fun x M2 => match M2[n]? with
      | some (.lst ds) => if ds.length < 1000000 then .ok .non (M2.set n (.lst (ds ++ [x]))) else .no
      | _ => .no
    | _ => .no
  | _ => .no
theorem de_append (ho : DE X W o f) (he : DE X W e g) (hbase : attributeBase o "append" X.env (eval o X.env) = eval o X.env := by rfl)
    (hfew : ((backTo pos (starEach [e] X.env)).all (fun x => !x.1) && (backToKw pos (keywordEach [] X.env)).all (fun x => x.1.isSome)
      && decide ([e].length + ([] : List Keyword).length + (if ([] : List Keyword).isEmpty then 0 else 1) < 30)) = true := by rfl)
    (hline : (apos.endLine == pos.line) = true := by rfl) (hs : starEach [e] X.env = (false, eval e X.env) :: starEach [] X.env := by rfl) (hplain : (backTo pos (starEach [] X.env)).any (·.1) = false := by rfl) :
    DE X W (.Call (.Attribute o "append" apos) [e] [] pos) (xAppend f g) :=
  PE.imp (pe_bm PySem.F.plainAttrs_list PySem.F.slot_list_append PySem.F.type_list_append mt_append ho (da_cons he da_nil hs) hbase hfew hline hs hplain) fun σ H Q z => by
    obtain ⟨η, F, B, ρ, M, er, m, w⟩ := z
    refine ⟨η, F, B, ρ, M, er, m, w.bind fun d M1 B1 ρ1 H1 l1 m1 w1 x rx => ?_⟩
    cases rx with
    | @ptr n a ha =>
      dsimp only at w1
      split at w1
      · next ds0 hm0 =>
        obtain ⟨us0, hH0, rs0, hB0⟩ := m1.list ha hm0
        refine ⟨.inl ⟨rfl, us0, sq_of hH0⟩, η, F, B1, ρ1, M1, er.mono l1, m1, ?_⟩
        have w1' : Wp X.K X.mg F B1 ρ1 (wAt W σ) (fun d B' ρ' H' => ∀ v, Rp X.K B' ρ' d v → Q v H') (((g η M1).bind fun d M1 => R.ok [d] M1).bind fun ds M2 => match ds with
          | [x] => (match M2[n]? with
            | some (.lst ds) => if ds.length < 1000000 then R.ok D.non (M2.set n (.lst (ds ++ [x]))) else .no
            | _ => .no)
          | _ => .no) := by
          rw [R.bind_assoc]
          exact w1
        refine w1'.bind fun ds M2 B2 ρ2 H2 l2 m2 w2 vs rv => ?_
        cases rv with
        | nil => exact w2.elim
        | @cons dx vx _ _ rx rr =>
          cases rr with
          | cons _ _ => exact w2.elim
          | nil =>
            dsimp only at w2
            split at w2
            · next ds hm =>
              split at w2
              · next hlt =>
                obtain ⟨us, hH, rs, hB⟩ := m2.list (l2.at ha) hm
                have hl := rs.len
                refine ⟨a, us, vx, rfl, rfl, hH, by rw [sizeLine_eq]; omega, ?_⟩
                exact w2 _ _ _ (Le.refl _ _) (m2.put (o := .lst (us ++ [vx])) (ob := .lst (ds ++ [dx])) (l2.at ha) hm (by intro z; cases z) ⟨_, upd_same, rs.snoc rx⟩) _ .non
              · exact w2.elim
            · exact w2.elim
      · exact w1.elim
    | _ => exact w1.elim
def xReverse (f : XE) : XE := fun η M => (f η M).bind fun d M1 => match d with
  | .ptr n => match M1[n]? with
    | some (.lst ds) => .ok .non (M1.set n (.lst ds.reverse))
    | _ => .no
  | _ => .no
theorem de_reverse (ho : DE X W o f) (hbase : attributeBase o "reverse" X.env (eval o X.env) = eval o X.env := by rfl) (hline : (apos.endLine == pos.line) = true := by rfl) :
    DE X W (.Call (.Attribute o "reverse" apos) [] [] pos) (xReverse f) :=
  PE.imp (pe_bm0 PySem.F.plainAttrs_list PySem.F.slot_list_reverse PySem.F.type_list_reverse mt_reverse ho hbase hline) fun σ H Q z => by
    obtain ⟨η, F, B, ρ, M, er, m, w⟩ := z
    refine ⟨η, F, B, ρ, M, er, m, w.bind fun d M1 B1 ρ1 H1 l1 m1 w1 x rx => ?_⟩
    cases rx with
    | @ptr n a ha =>
      dsimp only at w1
      split at w1
      · next ds hm =>
        obtain ⟨us, hH, rs, hB⟩ := m1.list ha hm
        refine ⟨.inl ⟨rfl, us, sq_of hH⟩, a, us, rfl, rfl, hH, ?_⟩
        exact w1 _ _ _ (Le.refl _ _) (m1.put (o := .lst us.reverse) (ob := .lst ds.reverse) ha hm (by intro z; cases z) ⟨_, upd_same, rs.rev⟩) _ .non
      · exact w1.elim
    | _ => exact w1.elim
/-! ### name = [.. for ..] -/
theorem ds_setLc {i : Nat} {y : Str} {py spos : Pos} {elt : Expr} {ifs : List Expr} {scope : Scope} {own : List (Str × Nat)} {fi : XI} {ts : List Nat} {gt : XG} {t : XT} {W' : WX} {fin : List D → Mem → R D} (hf : FinOk fin) (hc : X.calm = true) (hN : X.N.Nodup) (hi : DI X W tg it fi) (ok : BlkOk X.N X.env.scope scope own)
    (hg : ∀ (s : Shared) (H : Hp) (C : Addr) (cl : List (Str × Addr)) (fp : List Addr), DG (X.blk s H scope (compEnvC scope cl C X.env) fp) W' tg ts gt) (ht : ∀ (s : Shared) (H : Hp) (C : Addr) (cl : List (Str × Addr)) (fp : List Addr), DTs (X.blk s H scope (compEnvC scope cl C X.env) fp) W' ifs t)
    (he : ∀ (s : Shared) (H : Hp) (C : Addr) (cl : List (Str × Addr)) (fp : List Addr), DE (X.blk s H scope (compEnvC scope cl C X.env) fp) W' elt f) (hts : ∀ i ∈ ts, i ∈ own.map (·.2)) (hy : X.N[i]? = some y := by rfl) (hyl : X.env.scope.names.lookup y = some .local := by rfl)
    (hsw : swapsWith (.ListComp elt [⟨tg, it, ifs, 0⟩] scope pos) (some (.Name y py)) spos.line X.env = pure true := by rfl) (hs : ∀ x, foldedSetIterable it X.env x = pure x := by intro _; rfl) :
    DS X W (.Assign [.Name y py] (.ListComp elt [⟨tg, it, ifs, 0⟩] scope pos) spos) (xAsg (xLc fin fi gt t f (own.map (·.2))) (xgName i)) :=
  PS.imp (ps_setLc (g := tG X.K X.mg W' ts gt) (tt := tT X.K X.mg W' t) (te := tE X.K X.mg W' f) hc hN hy hyl hsw hi ok hg ht he hs) fun E σ H z => de_lc.lcGo hf hts σ H _ (set_snd E σ H z)
end
end Dn

/-! DnPtr: walks over lists that may change (but do not while they are walked) -/
namespace Dn
open PySem L2 Evl
abbrev XP := Dv → Mem → R (Option Nat × List D)
/-- the list at n is still ds (or it is one that stays) -/
def Ck (n : Option Nat) (ds : List D) (M : Mem) : Prop := match n with
  | none => True
  | some n => M[n]? = some (.lst ds)
structure WalkP (K : PySem.W.Frag) (J : It) (B : Hp) (ρ : List Addr) (n : Option Nat) (ds : List D) : Prop where
  w : ∃ (G : Hp → Prop) (Y : Nat → Hp → V → Hp → Prop), Walk J ds.length G Y ∧ (∀ F B1 ρ1 M H, Le B ρ B1 ρ1 → MR K F B1 ρ1 M H → Ck n ds M → G H) ∧
    ∀ (i : Nat) (d : D), ds[i]? = some d → ∀ F B1 ρ1 M H x H2, Le B ρ B1 ρ1 → MR K F B1 ρ1 M H → Ck n ds M → Y i H x H2 → ∃ B2, Le B1 ρ1 B2 ρ1 ∧ MR K F B2 ρ1 M H2 ∧ Rp K B2 ρ1 d x ∧ Ex H H2
def tP (K : PySem.W.Frag) (mg : Str → Option Value) (W : WX) (f : XP) : TI := fun σ H Z => ∃ η F B ρ M, ER K B ρ η σ ∧ MR K F B ρ M H ∧ Wp K mg F B ρ (wAt W σ) (fun p B' ρ' H' => ∀ J, WalkP K J B' ρ' p.1 p.2 → Z J H') (f η M)
def DP (X : Cx) (W : WX) (tg iter : Expr) (f : XP) : Prop := PI X tg iter (tP X.K X.mg W f)
section
variable {X : Cx} {W : WX} {a b c e o tg it : Expr} {es : List Expr} {f g k : XE} {fa : XA} {p : XT} {pos : Pos}
def xPt (f : XE) : XP := fun η M => (f η M).bind fun d M1 => match d with
  | .ptr n => match M1[n]? with
    | some (.lst ds) => .ok (some n, ds) M1
    | _ => .no
  | _ => .no
theorem dp_ptr (he : DE X W it f) : DP X W tg it (xPt f) := PI.imp (pi_list he) fun σ H Q z => by
  obtain ⟨η, F, B, ρ, M, er, m, w⟩ := z
  refine ⟨η, F, B, ρ, M, er, m, w.bind fun d M1 B1 ρ1 H1 l1 m1 w1 v rv => ?_⟩
  cases rv with
  | @ptr n a ha =>
    dsimp only at w1
    split at w1
    · next ds hm =>
      obtain ⟨vs, hH, rs, hB⟩ := m1.list ha hm
      refine ⟨a, rfl, ⟨vs, sq_of hH⟩, Wp.ret w1 m1 _ ⟨⟨fun H => ∃ vs, SqL X.K H a vs ∧ vs.length = ds.length, fun i H x H2 => H2 = H ∧ ∀ vs, SqL X.K H a vs → vs[i]? = some x, ⟨?_, ?_, ?_⟩, ?_, ?_⟩⟩⟩
      · rintro i H hi ⟨vs, q, hl⟩
        have hi : i < ds.length := hi
        exact ⟨vs, vs[i]'(by omega), q, by simp⟩
      · rintro H ⟨vs, q, hl⟩
        exact ⟨vs, q, by show vs.length ≤ ds.length; omega⟩
      · rintro i H x H2 hi ⟨vs, q, hl⟩ y
        exact ⟨y.1, fun us q2 => y.2 us q2⟩
      · intro F2 B2 ρ2 M2 H2 l2 m2 ck
        have ck : M2[n]? = some (.lst ds) := ck
        obtain ⟨us, h2, r2, _⟩ := m2.list (l2.at ha) ck
        exact ⟨us, sq_of h2, by rw [← r2.len]⟩
      · intro i d hd F2 B2 ρ2 M2 H2 x H3 l2 m2 ck y
        obtain ⟨rfl, hx⟩ := y
        have ck : M2[n]? = some (.lst ds) := ck
        obtain ⟨us, h2, r2, _⟩ := m2.list (l2.at ha) ck
        obtain ⟨v, h3, h4⟩ := r2.get hd
        rw [hx us (sq_of h2)] at h3
        cases h3
        exact ⟨B2, Le.refl _ _, m2, h4, Ex.refl _⟩
    · exact w1.elim
  | _ => exact w1.elim
/-- a walk that is good anyway -/
def xStay (f : XI) : XP := fun η M => (f η M).bind fun ds M1 => .ok (none, ds) M1
theorem walkP_of {K : PySem.W.Frag} {J : It} {B : Hp} {ρ : List Addr} {ds : List D} (h : WalkD K J B ρ ds) : WalkP K J B ρ none ds := by
  obtain ⟨G, Y, wk, hG, hY⟩ := h.w
  exact ⟨⟨G, Y, wk, fun F B1 ρ1 M H l m _ => hG H (l.1.trans m.ex), fun i d hd F B1 ρ1 M H x H2 l m _ y => hY i d hd F B1 ρ1 M H x H2 l m y⟩⟩
theorem dp_stay {fi : XI} (h : DI X W tg it fi) : DP X W tg it (xStay fi) := PI.imp h fun σ H Q z => by
  obtain ⟨η, F, B, ρ, M, er, m, w⟩ := z
  exact ⟨η, F, B, ρ, M, er, m, w.bind fun ds M1 B1 ρ1 H1 l1 m1 w1 J wd => Wp.ret w1 m1 J (walkP_of wd)⟩
/-- over a list that may change, or over what stays -/
def isPtr : D → Bool
  | .ptr _ => true
  | _ => false
def xEi (f : XE) : XP := fun η M => match f η M with
  | .ok d M1 => if isPtr d = true then xPt f η M else xStay (xSq f) η M
  | .ex e M1 => .ex e M1
  | .no => .no
theorem dp_ei (he : DE X W it f) : DP X W tg it (xEi f) := PI.imp (PI.or (dp_ptr he) (dp_stay (di_sq he))) fun σ H Q z => by
  obtain ⟨η, F, B, ρ, M, er, m, w⟩ := z
  unfold xEi at w
  cases hr : f η M with
  | no => rw [hr] at w; exact w.elim
  | ex e1 M1 =>
    rw [hr] at w
    refine .inl ⟨η, F, B, ρ, M, er, m, ?_⟩
    unfold xPt
    rw [hr]
    exact w
  | ok d M1 =>
    rw [hr] at w
    dsimp only at w
    split at w
    · exact .inl ⟨η, F, B, ρ, M, er, m, w⟩
    · exact .inr ⟨η, F, B, ρ, M, er, m, w⟩
open Classical in
noncomputable def xForLP (n : Option Nat) (ds0 : List D) (g : XG) (body : XS) : List D → Dv → Mem → R Fl
  | [], η, M => if Ck n ds0 M then .ok (.nx η) M else .no
  | d :: ds, η, M => if Ck n ds0 M then (g d η M).bind fun η' M1 => (body η' M1).bind fun fl M2 => match fl with
    | .nx η2 => xForLP n ds0 g body ds η2 M2
    | .ct η2 => xForLP n ds0 g body ds η2 M2
    | .bk η2 => .ok (.nx η2) M2
    | .rt v => .ok (.rt v) M2
    else .no
noncomputable def xForP (i : XP) (g : XG) (body : XS) : XS := fun η M => (i η M).bind fun q M1 => xForLP q.1 q.2 g body q.2 η M1
theorem ckF {U : XK} {K : PySem.W.Frag} {mg : Str → Option Value} {F B : Hp} {ρ : List Addr} {P : Fl → Hp → List Addr → Hp → Prop} {n : Option Nat} {ds0 r : List D} {g : XG} {body : XS} {η : Dv} {M : Mem} (w : Wp K mg F B ρ U P (xForLP n ds0 g body r η M)) : Ck n ds0 M := by
  by_cases h : Ck n ds0 M
  · exact h
  · cases r <;> (unfold xForLP at w; rw [if_neg h] at w; exact w.elim)
theorem ds_forP {body : List Stmt} {fi : XP} {ts : List Nat} {gt : XG} {s : XS} (hp : PassesOwn (model X.prog X.w) X.A X.env X.xe) (hc : X.calm = true) (hi : DP X W tg it fi) (hg : DG X W tg ts gt) (hb : DSs X W body s)
    (hs : ∀ x, foldedSetIterable it X.env x = pure x := by intro _; rfl) : DS X W (.For tg it body [] pos) (xForP fi gt s) := PS.imp (ps_for hp hc hi hg hb hs) fun E σ H z => by
  obtain ⟨η, F, B, ρ, M, er, m, w⟩ := z
  refine ⟨η, F, B, ρ, M, er, m, w.bind fun q M1 B1 ρ1 H1 l1 m1 w1 J wd => ?_⟩
  obtain ⟨nn, ds⟩ := q
  dsimp only at w1 wd
  obtain ⟨G, Y, wk, hG, hY⟩ := wd.w
  refine for_it wk (fun i σ' H' => ∃ η' B' ρ' M', ER X.K B' ρ' η' σ' ∧ MR X.K F B' ρ' M' H' ∧ Le B1 ρ1 B' ρ' ∧ Wp X.K X.mg F B' ρ' (wAll W) (FlP X.K E) (xForLP nn ds gt s (ds.drop i) η' M')) ⟨η, B1, ρ1, M1, er.mono l1, m1, Le.refl _ _, by simpa using w1⟩
    (fun i σ' H' _ ⟨η', B', ρ', M', _, m', l', w'⟩ => hG F B' ρ' M' H' l' m' (ckF w')) (fun i x σ' H' H2 hi ⟨η', B', ρ', M', e', m', l', w'⟩ y => ?_) (fun σ' H' ⟨η', B', ρ', M', e', m', l', w'⟩ => ?_)
  · have hd : ds[i]? = some ds[i] := List.getElem?_eq_getElem hi
    have ck := ckF w'
    rw [List.drop_eq_getElem_cons hi] at w'
    unfold xForLP at w'
    rw [if_pos ck] at w'
    obtain ⟨B2, l2, m2, r2, _⟩ := hY i ds[i] hd F B' ρ' M' H' x H2 l' m' ck y
    have w2 : Wp X.K X.mg F B2 ρ' (wAll W) (FlP X.K E) ((gt ds[i] η' M').bind _) := w'.mono l2
    refine ⟨ds[i], η', F, B2, ρ', M', r2, e'.mono l2, m2, w2.bind fun η3 M3 B3 ρ3 H3 l3 m3 w3 σ3 e3 _ => ?_⟩
    refine ⟨η3, F, B3, ρ3, M3, e3, m3, w3.bind fun fl M4 B4 ρ4 H4 l4 m4 w4 => ?_⟩
    have lz : Le B1 ρ1 B4 ρ4 := ((l'.trans l2).trans l3).trans l4
    cases fl with
    | nx η4 => exact fun σ4 e4 => ⟨η4, B4, ρ4, M4, e4, m4, lz, w4⟩
    | ct η4 => exact fun σ4 e4 => ⟨η4, B4, ρ4, M4, e4, m4, lz, w4⟩
    | bk η4 => exact fun σ4 e4 => Wp.ret (P := FlP X.K E) w4 m4 σ4 e4
    | rt v => exact Wp.ret (P := FlP X.K E) w4 m4
  · have ck := ckF w'
    rw [List.drop_length] at w'
    unfold xForLP at w'
    rw [if_pos ck] at w'
    exact Wp.ret (P := FlP X.K E) w' m' σ' e'

open Classical in
noncomputable def xLcLP (n : Option Nat) (ds0 : List D) (g : XG) (t : XT) (f : XE) : List D → Dv → Mem → R (List D)
  | [], _, M => if Ck n ds0 M then .ok [] M else .no
  | d :: ds, η, M => if Ck n ds0 M then (g d η M).calm.bind fun η' M1 => (t η' M1).calm.bind fun b M2 => if b = true then (f η' M2).calm.bind fun y M3 => (xLcLP n ds0 g t f ds η M3).bind fun r M4 => .ok (y :: r) M4 else xLcLP n ds0 g t f ds η M2
    else .no
noncomputable def xLcP (fin : List D → Mem → R D) (i : XP) (g : XG) (t : XT) (f : XE) (vs : List Nat) : XE := fun η M => (i η M).bind fun q M1 => if q.2.length ≤ 100000 then (xLcLP q.1 q.2 g t f q.2 (wipeD η vs) M1).bind fin else .no
theorem ckL {U : XK} {K : PySem.W.Frag} {mg : Str → Option Value} {F B : Hp} {ρ : List Addr} {P : D → Hp → List Addr → Hp → Prop} {n : Option Nat} {ds0 r : List D} {g : XG} {t : XT} {f : XE} {η : Dv} {M : Mem} {k : List D → Mem → R D} (w : Wp K mg F B ρ U P ((xLcLP n ds0 g t f r η M).bind k)) : Ck n ds0 M := by
  by_cases h : Ck n ds0 M
  · exact h
  · cases r <;> (unfold xLcLP at w; rw [if_neg h] at w; exact w.elim)
theorem de_lcP {elt : Expr} {ifs : List Expr} {scope : Scope} {own : List (Str × Nat)} {fi : XP} {ts : List Nat} {gt : XG} {t : XT} {W' : WX} {fin : List D → Mem → R D} (hf : FinOk fin) (hc : X.calm = true) (hN : X.N.Nodup) (hi : DP X W tg it fi) (ok : BlkOk X.N X.env.scope scope own)
    (hg : ∀ (s : Shared) (H : Hp) (C : Addr) (cl : List (Str × Addr)) (fp : List Addr), DG (X.blk s H scope (compEnvC scope cl C X.env) fp) W' tg ts gt) (ht : ∀ (s : Shared) (H : Hp) (C : Addr) (cl : List (Str × Addr)) (fp : List Addr), DTs (X.blk s H scope (compEnvC scope cl C X.env) fp) W' ifs t)
    (he : ∀ (s : Shared) (H : Hp) (C : Addr) (cl : List (Str × Addr)) (fp : List Addr), DE (X.blk s H scope (compEnvC scope cl C X.env) fp) W' elt f) (hts : ∀ i ∈ ts, i ∈ own.map (·.2)) (hs : ∀ x, foldedSetIterable it X.env x = pure x := by intro _; rfl) :
    DE X W (.ListComp elt [⟨tg, it, ifs, 0⟩] scope pos) (xLcP fin fi gt t f (own.map (·.2))) := PE.imp (pe_lc (g := tG X.K X.mg W' ts gt) (tt := tT X.K X.mg W' t) (te := tE X.K X.mg W' f) hc hN hi ok hg ht he hs) fun σ H Q z => lcGo hf hts σ H Q z
where
  lcGo {own : List (Str × Nat)} {fi : XP} {ts : List Nat} {gt : XG} {t : XT} {W' : WX} {fin : List D → Mem → R D} {f : XE} (hf : FinOk fin) (hts : ∀ i ∈ ts, i ∈ own.map (·.2)) (σ : L2.St) (H : Hp) (Q : VK) (z : tE X.K X.mg W (xLcP fin fi gt t f (own.map (·.2))) σ H Q) :
      tLc (tP X.K X.mg W fi) (tG X.K X.mg W' ts gt) (tT X.K X.mg W' t) (tE X.K X.mg W' f) (own.map (·.2)) σ H Q := by
    obtain ⟨η, F, B, ρ, M, er, m, w⟩ := z
    refine ⟨η, F, B, ρ, M, er, m, w.bind fun q M1 B1 ρ1 H1 l1 m1 w1 J wd => fun p hp => ?_⟩
    obtain ⟨nn, ds⟩ := q
    dsimp only at w1 wd
    split at w1
    · next hlen =>
      obtain ⟨G, Y, wk, hG, hY⟩ := wd.w
      have hFp : F p = none := fresh_back m1.fr hp
      refine lc_it wk (fun i H' => ∃ B' ρ' M' acc dacc, MR X.K F B' ρ' M' H' ∧ Le B1 ρ1 B' ρ' ∧ H' p = some (.lst acc) ∧ B' p = none ∧ p ∉ ρ' ∧ Rps X.K B' ρ' dacc acc ∧ dacc.length ≤ i ∧
          Wp X.K X.mg F B' ρ' (wAt W σ) (fun d B' ρ' H' => ∀ v, Rp X.K B' ρ' d v → Q v H') ((xLcLP nn ds gt t f (ds.drop i) (wipeD η (own.map (·.2))) M').bind fun r M2 => fin (dacc ++ r) M2))
        ⟨B1, ρ1, M1, [], [], m1.more (Ex.new hp), Le.refl _ _, upd_same, fresh_back m1.ex hp, m1.notin hp, .nil, Nat.le_refl _, by simpa using w1⟩
        (fun i H' _ ⟨B', ρ', M', _, _, m', l', _, _, _, _, _, w'⟩ => hG F B' ρ' M' H' l' m' (ckL w')) (fun i x H' H2 hi ⟨B', ρ', M', acc, dacc, m', l', hp', hB', hρ', ra, hla, w'⟩ y => ?_) (fun H' ⟨B', ρ', M', acc, dacc, m', l', hp', hB', hρ', ra, hla, w'⟩ => ?_)
      · have hd : ds[i]? = some ds[i] := List.getElem?_eq_getElem hi
        have ck := ckL w'
        rw [List.drop_eq_getElem_cons hi] at w'
        have m'' : MR X.K (upd F p (.lst acc)) B' ρ' M' H' := add_frame m' hp' hB' hρ'
        obtain ⟨B2, l2, m2, r2, _⟩ := hY i ds[i] hd _ B' ρ' M' H' x H2 l' m'' ck y
        unfold xLcLP at w'
        rw [if_pos ck] at w'
        have e' : ER X.K B2 ρ' (wipeD η (own.map (·.2))) (L2.wipe σ (own.map (·.2))) := (er.mono ((l1.trans l'))).mono l2 |>.wipe _
        cases h1 : gt ds[i] (wipeD η (own.map (·.2))) M' with
        | ex e0 M0 => rw [h1] at w'; exact w'.elim
        | no => rw [h1] at w'; exact w'.elim
        | ok η3 M3 =>
        simp only [h1, R.calm_ok, R.bind_ok] at w'
        refine ⟨ds[i], _, _, B2, ρ', M', r2, e', m2, ?_⟩
        rw [h1]
        intro B3 ρ3 H3 l3 m3 σ3 e3 off3
        refine ⟨wipe_off off3 hts ▸ ?_, ?_⟩
        · have idem : ∀ (vs : List Nat) (τ : L2.St), L2.wipe (L2.wipe τ vs) vs = L2.wipe τ vs := fun vs τ => by
            apply wipe_off (ts := vs) (σ := τ) (σ' := L2.wipe τ vs)
            · refine ⟨L2.wipe_length _ _, fun j hj => ?_⟩
              exact L2.wipe_out hj
            · intro t ht; exact ht
          exact idem _ _
        · cases h2 : t η3 M3 with
          | ex e0 M0 => rw [h2] at w'; exact w'.elim
          | no => rw [h2] at w'; exact w'.elim
          | ok bb M4 =>
          simp only [h2, R.calm_ok, R.bind_ok] at w'
          refine ⟨η3, _, B3, ρ3, M3, e3, m3, ?_⟩
          rw [h2]
          intro B4 ρ4 H4 l4 m4
          have lz : Le B' ρ' B4 ρ4 := (l2.trans l3).trans l4
          cases bb with
          | false =>
            simp only [Bool.false_eq_true, if_false] at w' ⊢
            have hp4 : H4 p = some (.lst acc) := m4.fr p _ upd_same
            obtain ⟨hB4, hρ4⟩ := m4.dj p _ upd_same
            have m5 := (drop_frame m4 hFp (.lst acc)).1
            have same : upd H4 p (.lst acc) = H4 := by
              funext q
              by_cases hq : q = p
              · subst hq; rw [upd_same, hp4]
              · rw [upd_ne hq]
            rw [same] at m5
            exact ⟨B4, ρ4, M4, acc, dacc, m5, l'.trans lz, hp4, hB4, hρ4, ra.mono lz, by omega, w'.mono lz⟩
          | true =>
            simp only [if_true] at w' ⊢
            cases h3 : f η3 M4 with
            | ex e0 M0 => rw [h3] at w'; exact w'.elim
            | no => rw [h3] at w'; exact w'.elim
            | ok yy M5 =>
            simp only [h3, R.calm_ok, R.bind_ok] at w'
            refine ⟨η3, _, B4, ρ4, M4, e3.mono l4, m4, ?_⟩
            rw [h3]
            intro B5 ρ5 H5 l5 m5 v5 r5
            have lz5 : Le B' ρ' B5 ρ5 := lz.trans l5
            have hp5 : H5 p = some (.lst acc) := m5.fr p _ upd_same
            obtain ⟨m6, hB6, hρ6⟩ := drop_frame m5 hFp (.lst (acc ++ [v5]))
            have hl := ra.len
            have hi' : i < 100000 := by omega
            refine ⟨acc, hp5, by rw [← hl]; exact sz_lt (by omega), B5, ρ5, M5, acc ++ [v5], dacc ++ [yy], m6, l'.trans lz5, upd_same, hB6, hρ6, (ra.mono lz5).snoc r5, by simp; omega, ?_⟩
            have w5 := w'.mono lz5
            cases h4 : xLcLP nn ds gt t f (ds.drop (i + 1)) (wipeD η (own.map (·.2))) M5 with
            | ex e0 M0 => rw [h4] at w5; exact w5
            | no => rw [h4] at w5; exact w5.elim
            | ok r6 M6 =>
              simp only [h4, R.bind_ok] at w5
              show Wp X.K X.mg F B5 ρ5 (wAt W σ) _ (fin (dacc ++ [yy] ++ r6) M6)
              rw [List.append_assoc]
              exact w5
      · have ck := ckL w'
        rw [List.drop_length] at w'
        unfold xLcLP at w'
        rw [if_pos ck] at w'
        have w2 : Wp X.K X.mg F B' ρ' (wAt W σ) (fun d B' ρ' H' => ∀ v, Rp X.K B' ρ' d v → Q v H') (fin (dacc ++ []) M') := w'
        rw [List.append_nil] at w2
        -- the heap without the new list
        have m0 : MR X.K F B' ρ' M' (fun q => if q = p then none else H' q) := by
          refine ⟨fun a v e => ?_, fun a v e => ?_, m'.dj, m'.len, m'.nd, fun n ob h => ?_, m'.nt⟩
          · rw [if_neg (ne_of_none e hB')]; exact m'.ex a v e
          · rw [if_neg (ne_of_none e hFp)]; exact m'.fr a v e
          · obtain ⟨a, ha, hb, r⟩ := m'.ob n ob h
            have na : a ≠ p := fun z => hρ' (z ▸ List.mem_of_getElem? ha)
            exact ⟨a, ha, hb, r.mono (Le.refl _ _) fun w q => by rw [if_neg na]; exact q⟩
        have hq := hf X.K X.mg (wAt W σ) F B' _ ρ' M' dacc acc Q m0 ra w2 p (if_pos rfl)
        have same : upd (fun q => if q = p then none else H' q) p (.lst acc) = H' := by
          funext q
          by_cases hq : q = p
          · subst hq; rw [upd_same, hp']
          · rw [upd_ne hq, if_neg hq]
        rw [same] at hq
        exact hq
    · exact w1.elim
end
end Dn

/-! DnZip: zip of two things, each a list or a tuple -/
namespace Dn
open PySem PySem.Spec PyProof.Rows L2 Evl
/-- what stands behind one of zip's iterators: T it at a place, L the thing walked -/
structure Nx (it l : Addr) (xs : Array Value) (T : Heap → Nat → Prop) (L : Heap → Prop) : Prop where
  item : ∀ {prog : Program} {w : World} {A : Around} {E : Value → Shared → Prop} {s : Shared} {k : Nat} {x : Value} {Q : Value → Shared → Prop}, T s.heap k → L s.heap → xs[k]? = some x → (∀ h', T h' (k + 1) → Heap.SameBut it s.heap h' → Q x { s with heap := h' }) →
    wpAny (model prog w) A (Builtin.SmallTypes.nextOf (.ref it)) Q E s
  fin : ∀ {prog : Program} {w : World} {A : Around} {E : Value → Shared → Prop} {s : Shared} {k : Nat} {Q : Value → Shared → Prop}, A.handled = none → T s.heap k → L s.heap → xs[k]? = none →
    (∀ h' e, Heap.ExtBut it s.heap h' → (∃ o, h'.get? e = some o ∧ o.cls = .type "StopIteration") → E (.ref e) { s with heap := h' }) → wpAny (model prog w) A (Builtin.SmallTypes.nextOf (.ref it)) Q E s
  kT : ∀ {h h' : Heap} {k : Nat}, T h k → (∀ o, h.get? it = some o → h'.get? it = some o) → T h' k
  kL : ∀ {h h' : Heap}, L h → (∀ o, h.get? l = some o → h'.get? l = some o) → L h'
  obj : ∀ {h : Heap} {k : Nat}, T h k → ∃ o, h.get? it = some o ∧ ∀ v, o.data ≠ .cell v
theorem nx_list {it l : Addr} {xs : Array Value} : Nx it l xs (fun h k => h.IsListIter it l k) (fun h => h.IsList l xs) :=
  ⟨fun h1 h2 h3 h4 => wpAny_nextOf_list_item h1 h2 h3 h4, fun hh h1 h2 h3 h4 => wpAny_nextOf_list_end hh h1 h2 h3 h4, fun h e => h.at e, fun ⟨o, ho, r⟩ e => ⟨o, e o ho, r⟩,
    fun ⟨o, e, _, d⟩ => ⟨o, e, fun v q => by rw [d] at q; cases q⟩⟩
theorem nx_tup {it l : Addr} {xs : Array Value} : Nx it l xs (fun h k => h.IsTupleIter it l k) (fun h => h.IsTuple l xs) :=
  ⟨fun h1 h2 h3 h4 => RZ.nextOf_tuple_item h1 h2 h3 h4, fun hh h1 h2 h3 h4 => RZ.nextOf_tuple_end hh h1 h2 h3 h4, fun h e => h.at e, fun ⟨o, ho, r⟩ e => ⟨o, e o ho, r⟩,
    fun ⟨o, e, _, d⟩ => ⟨o, e, fun v q => by rw [d] at q; cases q⟩⟩
section
variable {prog : Program} {w : World} {A : Around} {E : Value → Shared → Prop} {s : Shared} {z TI TO i1 i2 l1 l2 : Addr} {k1 k2 : Nat} {xs ys : Array Value} {T1 T2 : Heap → Nat → Prop} {L1 L2 : Heap → Prop} {a b : Value}
theorem zipG_item {x y : Value} {Q : Value → Shared → Prop} (N1 : Nx i1 l1 xs T1 L1) (N2 : Nx i2 l2 ys T2 L2) (D : ZipApart z TI TO i1 i2 l1 l2)
    (hz : IsZip s.heap z TI TO .none) (hTI : IsPair s.heap TI (.ref i1) (.ref i2)) (hTO : IsPair s.heap TO a b) (h1 : T1 s.heap k1) (h2 : T2 s.heap k2) (hl1 : L1 s.heap) (hl2 : L2 s.heap) (hx : xs[k1]? = some x) (hy : ys[k2]? = some y)
    (hQ : ∀ h', IsZip h' z TI TO (rawInt s.heap.objs.size) → IsPair h' TO x y → T1 h' (k1 + 1) → T2 h' (k2 + 1) → IsPair h' s.heap.objs.size x y → h'.objs.size = s.heap.objs.size + 1 →
      (∀ c o, c ≠ z → c ≠ TO → c ≠ i1 → c ≠ i2 → s.heap.get? c = some o → h'.get? c = some o) → Q (.ref s.heap.objs.size) { s with heap := h' }) :
    wpAny (model prog w) A (Builtin.«zip.__next__» ⟨[.ref z], []⟩) (fun fin s' => ∃ v, fin = .done (.ret v) ∧ Q v s') E s := by
  show wpAny _ _ (field (.ref z) 2 >>= _) _ _ _
  refine wpAny_bind (wpAny_field hz rfl (x := .bool false) rfl ?_)
  show wpAny _ _ (field (.ref z) 3 >>= _) _ _ _
  refine wpAny_bind (wpAny_field hz rfl (x := .ref TI) rfl ?_)
  refine wpAny_bind (wpAny_seqItems hTI rfl ?_)
  show wpAny _ _ (Builtin.SmallTypes.ownedTupleIsFree (.ref z) >>= _) _ _ _
  refine wpAny_bind ?_
  unfold Builtin.SmallTypes.ownedTupleIsFree
  refine wpAny_bind (wpAny_field hz rfl (x := .none) rfl (wpAny_pure ?_))
  simp only [if_true]
  refine wpAny_bind (wpAny_rule ?_)
  refine wpAny_bind (wpAny_field hz rfl (x := .ref TO) rfl ?_)
  refine wpAny_bind (wpAny_setField_rec hz (by simp) fun g1 zg1 sg1 => ?_)
  replace zg1 : IsZip g1 z TI TO .ellipsis := zg1
  refine wpAny_bind ?_
  simp only [List.zipIdx_cons, List.zipIdx_nil, List.forIn_cons, List.forIn_nil]
  refine wpAny_bind (wpAny_bind (wpAny_onRaise ?_))
  show wpAny _ _ (Builtin.SmallTypes.nextOf (.ref i1) >>= _) _ _ _
  refine wpAny_bind (N1.item (N1.kT h1 fun o e => sg1.extBut _ _ D.i1z e) (N1.kL hl1 fun o e => sg1.extBut _ _ D.l1z e) hx fun g2 t1 sg2 => wpAny_pure ?_)
  have p2 : IsPair g2 TO a b := sg2.extBut _ _ D.TOi1 (sg1.extBut _ _ D.TOz hTO)
  refine wpAny_bind (wpAny_seqItems p2 rfl ?_)
  refine wpAny_bind (wpAny_updateSeq_pair p2 fun g3 p3 sg3 => ?_)
  replace p3 : IsPair g3 TO x b := p3
  refine wpAny_bind (wpAny_letGo (wpAny_pure ?_))
  refine wpAny_bind (wpAny_bind (wpAny_onRaise ?_))
  show wpAny _ _ (Builtin.SmallTypes.nextOf (.ref i2) >>= _) _ _ _
  refine wpAny_bind (N2.item (N2.kT h2 fun o e => sg3.extBut _ _ D.TOi2.symm (sg2.extBut _ _ D.i12.symm (sg1.extBut _ _ D.i2z e))) (N2.kL hl2 fun o e => sg3.extBut _ _ D.l2TO (sg2.extBut _ _ D.l2i1 (sg1.extBut _ _ D.l2z e))) hy fun g4 t2 sg4 => wpAny_pure ?_)
  have p4 : IsPair g4 TO x b := sg4.extBut _ _ D.TOi2 p3
  refine wpAny_bind (wpAny_seqItems p4 rfl ?_)
  refine wpAny_bind (wpAny_updateSeq_pair p4 fun g5 p5 sg5 => ?_)
  replace p5 : IsPair g5 TO x y := p5
  refine wpAny_bind (wpAny_letGo (wpAny_pure (wpAny_pure ?_)))
  refine wpAny_bind (wpAny_seqItems p5 rfl ?_)
  refine wpAny_bind (wpAny_newTuple ?_)
  have hsz : g5.objs.size = s.heap.objs.size := by rw [sg5.1, sg4.1, sg3.1, sg2.1, sg1.1]
  have z5 : IsZip g5 z TI TO .ellipsis := sg5.extBut _ _ D.TOz.symm (sg4.extBut _ _ D.i2z.symm (sg3.extBut _ _ D.TOz.symm (sg2.extBut _ _ D.i1z.symm zg1)))
  have kp : ∀ c o, c ≠ z → c ≠ TO → c ≠ i1 → c ≠ i2 → s.heap.get? c = some o → g5.get? c = some o := fun c o c1 c2 c3 c4 e =>
    sg5.extBut _ _ c2 (sg4.extBut _ _ c4 (sg3.extBut _ _ c2 (sg2.extBut _ _ c3 (sg1.extBut _ _ c1 e))))
  have u1 : T1 g5 (k1 + 1) := N1.kT t1 fun o e => sg5.extBut _ _ D.TOi1.symm (sg4.extBut _ _ D.i12 (sg3.extBut _ _ D.TOi1.symm e))
  have u2 : T2 g5 (k2 + 1) := N2.kT t2 fun o e => sg5.extBut _ _ D.TOi2.symm e
  have hzlt : z < g5.objs.size := Heap.lt_size z5
  show wpAny _ _ (Builtin.SmallTypes.ownedTupleHandOut (.ref z) (.ref g5.objs.size) >>= _) _ _ _
  refine wpAny_bind ?_
  unfold Builtin.SmallTypes.ownedTupleHandOut
  have z6 : IsZip (g5.push { cls := .type "tuple", data := .seq #[x, y] }) z TI TO .ellipsis := Heap.get?_push_of_some _ z5
  refine wpAny_bind (wpAny_setField_rec z6 (by simp) fun g7 z7 sg7 => ?_)
  replace z7 : IsZip g7 z TI TO (rawInt g5.objs.size) := z7
  refine wpAny_setField_rec z7 (by simp) fun g8 z8 sg8 => ?_
  replace z8 : IsZip g8 z TI TO (rawInt g5.objs.size) := z8
  have up : ∀ c o, c ≠ z → g5.get? c = some o → g8.get? c = some o := fun c o c1 e => sg8.extBut _ _ c1 (sg7.extBut _ _ c1 (Heap.get?_push_of_some _ e))
  have pT : IsPair g8 g5.objs.size x y := sg8.extBut _ _ (Nat.ne_of_gt hzlt) (sg7.extBut _ _ (Nat.ne_of_gt hzlt) (Heap.get?_push_size _ rfl))
  have sz8 : g8.objs.size = g5.objs.size + 1 := by rw [sg8.1, sg7.1, Heap.size_push]
  rw [hsz] at z8 pT sz8
  refine wpAny_pure ⟨_, rfl, ?_⟩
  show Q (.ref g5.objs.size) _
  rw [hsz]
  exact hQ g8 z8 (up _ _ D.TOz p5) (N1.kT u1 fun o e => up _ o D.i1z e) (N2.kT u2 fun o e => up _ o D.i2z e) pT sz8 fun c o c1 c2 c3 c4 e => up c o c1 (kp c o c1 c2 c3 c4 e)
theorem zipG_end {Q : PySem.Fin → Shared → Prop} (N1 : Nx i1 l1 xs T1 L1) (N2 : Nx i2 l2 ys T2 L2) (hh : A.handled = none) (D : ZipApart z TI TO i1 i2 l1 l2)
    (hz : IsZip s.heap z TI TO .none) (hTI : IsPair s.heap TI (.ref i1) (.ref i2)) (hTO : IsPair s.heap TO a b) (h1 : T1 s.heap k1) (h2 : T2 s.heap k2) (hl1 : L1 s.heap) (hl2 : L2 s.heap) (hend : xs[k1]? = none ∨ ys[k2]? = none)
    (hE : ∀ h' e, (∀ c o, c ≠ z → c ≠ TO → c ≠ i1 → c ≠ i2 → s.heap.get? c = some o → h'.get? c = some o) → (∃ o, h'.get? e = some o ∧ o.cls = .type "StopIteration") → E (.ref e) { s with heap := h' }) :
    wpAny (model prog w) A (Builtin.«zip.__next__» ⟨[.ref z], []⟩) Q E s := by
  show wpAny _ _ (field (.ref z) 2 >>= _) _ _ _
  refine wpAny_bind (wpAny_field hz rfl (x := .bool false) rfl ?_)
  show wpAny _ _ (field (.ref z) 3 >>= _) _ _ _
  refine wpAny_bind (wpAny_field hz rfl (x := .ref TI) rfl ?_)
  refine wpAny_bind (wpAny_seqItems hTI rfl ?_)
  show wpAny _ _ (Builtin.SmallTypes.ownedTupleIsFree (.ref z) >>= _) _ _ _
  refine wpAny_bind ?_
  unfold Builtin.SmallTypes.ownedTupleIsFree
  refine wpAny_bind (wpAny_field hz rfl (x := .none) rfl (wpAny_pure ?_))
  simp only [if_true]
  refine wpAny_bind (wpAny_rule ?_)
  refine wpAny_bind (wpAny_field hz rfl (x := .ref TO) rfl ?_)
  refine wpAny_bind (wpAny_setField_rec hz (by simp) fun g1 zg1 sg1 => ?_)
  replace zg1 : IsZip g1 z TI TO .ellipsis := zg1
  refine wpAny_bind ?_
  simp only [List.zipIdx_cons, List.zipIdx_nil, List.forIn_cons, List.forIn_nil]
  refine wpAny_bind (wpAny_bind (wpAny_onRaise ?_))
  show wpAny _ _ (Builtin.SmallTypes.nextOf (.ref i1) >>= _) _ _ _
  have j1 : T1 g1 k1 := N1.kT h1 fun o e => sg1.extBut _ _ D.i1z e
  have j2 : L1 g1 := N1.kL hl1 fun o e => sg1.extBut _ _ D.l1z e
  cases hx : xs[k1]? with
  | none =>
    refine wpAny_bind (N1.fin hh j1 j2 hx fun g2 e sg2 he => ?_)
    obtain ⟨oe, hoe, hce⟩ := he
    have z2 : IsZip g2 z TI TO .ellipsis := sg2 _ _ D.i1z.symm zg1
    have hez : e ≠ z := fun q => by subst q; rw [z2] at hoe; cases hoe; simp at hce
    exact wpAny_setField_rec z2 (by simp) fun g3 _ sg3 => hE g3 e (fun c o c1 _ c3 _ q => sg3.extBut _ _ c1 (sg2 _ _ c3 (sg1.extBut _ _ c1 q))) ⟨oe, sg3.extBut _ _ hez hoe, hce⟩
  | some x =>
    have hy : ys[k2]? = none := by rcases hend with h | h; rw [hx] at h; cases h; exact h
    refine wpAny_bind (N1.item j1 j2 hx fun g2 t1 sg2 => wpAny_pure ?_)
    have p2 : IsPair g2 TO a b := sg2.extBut _ _ D.TOi1 (sg1.extBut _ _ D.TOz hTO)
    refine wpAny_bind (wpAny_seqItems p2 rfl ?_)
    refine wpAny_bind (wpAny_updateSeq_pair p2 fun g3 p3 sg3 => ?_)
    refine wpAny_bind (wpAny_letGo (wpAny_pure ?_))
    refine wpAny_bind (wpAny_bind (wpAny_onRaise ?_))
    show wpAny _ _ (Builtin.SmallTypes.nextOf (.ref i2) >>= _) _ _ _
    refine wpAny_bind (N2.fin hh (N2.kT h2 fun o e => sg3.extBut _ _ D.TOi2.symm (sg2.extBut _ _ D.i12.symm (sg1.extBut _ _ D.i2z e))) (N2.kL hl2 fun o e => sg3.extBut _ _ D.l2TO (sg2.extBut _ _ D.l2i1 (sg1.extBut _ _ D.l2z e))) hy fun g4 e sg4 he => ?_)
    obtain ⟨oe, hoe, hce⟩ := he
    have z4 : IsZip g4 z TI TO .ellipsis := sg4 _ _ D.i2z.symm (sg3.extBut _ _ D.TOz.symm (sg2.extBut _ _ D.i1z.symm zg1))
    have hez : e ≠ z := fun q => by subst q; rw [z4] at hoe; cases hoe; simp at hce
    exact wpAny_setField_rec z4 (by simp) fun g5 _ sg5 => hE g5 e (fun c o c1 c2 c3 c4 q => sg5.extBut _ _ c1 (sg4 _ _ c4 (sg3.extBut _ _ c2 (sg2.extBut _ _ c3 (sg1.extBut _ _ c1 q))))) ⟨oe, sg5.extBut _ _ hez hoe, hce⟩
theorem nextG_item {x y : Value} {Q : Option Value → Shared → Prop} (N1 : Nx i1 l1 xs T1 L1) (N2 : Nx i2 l2 ys T2 L2) (D : ZipApart z TI TO i1 i2 l1 l2)
    (hz : IsZip s.heap z TI TO .none) (hTI : IsPair s.heap TI (.ref i1) (.ref i2)) (hTO : IsPair s.heap TO a b) (h1 : T1 s.heap k1) (h2 : T2 s.heap k2) (hl1 : L1 s.heap) (hl2 : L2 s.heap) (hx : xs[k1]? = some x) (hy : ys[k2]? = some y)
    (hQ : ∀ h', IsZip h' z TI TO (rawInt s.heap.objs.size) → IsPair h' TO x y → T1 h' (k1 + 1) → T2 h' (k2 + 1) → IsPair h' s.heap.objs.size x y → h'.objs.size = s.heap.objs.size + 1 →
      (∀ c o, c ≠ z → c ≠ TO → c ≠ i1 → c ≠ i2 → s.heap.get? c = some o → h'.get? c = some o) → Q (some (.ref s.heap.objs.size)) { s with heap := h' }) :
    wpAny (model prog w) A (pyNext (.ref z)) Q E s := by
  have hT : s.TypeIs (.ref z) "zip" := ⟨_, hz, rfl⟩
  unfold pyNext
  exact wpAny_bind (wpAny_attempt (wpAny_callSpecial?_slot (name := Str.ofString "__next__") hT F.slot_zip_next
    (wpAny_call_entry F.slot_zip_next hT F.entry_zip_next
      (zipG_item N1 N2 D hz hTI hTO h1 h2 hl1 hl2 hx hy fun h' a1 a2 a3 a4 a5 a6 a7 => wpAny_pure (hQ h' a1 a2 a3 a4 a5 a6 a7)) (F.args_zip_next_1 _))))
theorem nextG_end {Q : Option Value → Shared → Prop} (N1 : Nx i1 l1 xs T1 L1) (N2 : Nx i2 l2 ys T2 L2) (hh : A.handled = none) (D : ZipApart z TI TO i1 i2 l1 l2)
    (hz : IsZip s.heap z TI TO .none) (hTI : IsPair s.heap TI (.ref i1) (.ref i2)) (hTO : IsPair s.heap TO a b) (h1 : T1 s.heap k1) (h2 : T2 s.heap k2) (hl1 : L1 s.heap) (hl2 : L2 s.heap) (hend : xs[k1]? = none ∨ ys[k2]? = none)
    (hQ : ∀ h', (∀ c o, c ≠ z → c ≠ TO → c ≠ i1 → c ≠ i2 → s.heap.get? c = some o → h'.get? c = some o) → Q none { s with heap := h' }) : wpAny (model prog w) A (pyNext (.ref z)) Q E s := by
  have hT : s.TypeIs (.ref z) "zip" := ⟨_, hz, rfl⟩
  unfold pyNext
  refine wpAny_bind (wpAny_attempt (wpAny_callSpecial?_slot (name := Str.ofString "__next__") hT F.slot_zip_next
    (wpAny_call_entry F.slot_zip_next hT F.entry_zip_next (zipG_end N1 N2 hh D hz hTI hTO h1 h2 hl1 hl2 hend fun h' e hk he => ?_) (F.args_zip_next_1 _))))
  obtain ⟨o, ho, hc⟩ := he
  refine wpAny_bind (wpAny_isInstance (T := "StopIteration") (b := true) ⟨o, ho, hc⟩ isSubtype_stop ?_)
  exact wpAny_pure (hQ _ hk)
end
end Dn
namespace Dn
open PySem PySem.Spec PyProof.Rows L2 Evl
abbrev zm1 (h : Heap) (l1 : Addr) : Heap := h.push { cls := .type "tuple_iterator", data := .fields #[.ref l1, .int 0 0] }
abbrev zm2 (h : Heap) (l1 l2 : Addr) : Heap := (zm1 h l1).push { cls := .type "list_iterator", data := .fields #[.ref l2, .int 0 0] }
abbrev zm3 (h : Heap) (l1 l2 : Addr) : Heap := (zm2 h l1 l2).push { cls := .type "tuple", data := .seq #[.ref h.objs.size, .ref (zm1 h l1).objs.size] }
abbrev zm4 (h : Heap) (l1 l2 : Addr) : Heap := (zm3 h l1 l2).push { cls := .type "tuple", data := .seq #[.none, .none] }
abbrev zm5 (h : Heap) (l1 l2 : Addr) : Heap := (zm4 h l1 l2).push { cls := .type "zip", data := .fields #[.none, .bool false, .bool false, .ref (zm2 h l1 l2).objs.size, .ref (zm3 h l1 l2).objs.size] }
theorem meets_zm_new (l1 l2 : Addr) (xs ys : Array Value) :
    Meets (Builtin.«zip.__new__» ⟨[.type "zip", .ref l1, .ref l2], []⟩) (fun _ R s => s.heap.IsTuple l1 xs ∧ s.heap.IsList l2 ys ∧
      R (.ok (.ret (.ref (zm4 s.heap l1 l2).objs.size))) { s with heap := zm5 s.heap l1 l2 }) :=
  .of_wp fun prog w A R s h => by
    obtain ⟨hp, g, d, tk, os⟩ := s; obtain ⟨hl1, hl2, h⟩ := h
    have hsub := sub_zip
    have hL1 : Heap.IsTuple (Shared.heap ⟨hp, g, d, tk, os⟩) l1 xs := hl1
    have hL2 : Heap.IsList (Shared.heap ⟨hp.push { cls := .type "tuple_iterator", data := .fields #[.ref l1, .int 0 0] }, g, d, tk, os⟩) l2 ys := Heap.IsList.push hl2 _
    wp_walk using wpAny_pyIter_tuple hL1, wpAny_pyIter_list hL2
    exact ⟨_, rfl, h⟩
section
variable {prog : Program} {w : World} {A : Around} {E : Value → Shared → Prop} {s : Shared}
theorem call_zm {l1 l2 : Addr} {xs ys : Array Value} {Q : Value → Shared → Prop} (hl1 : s.heap.IsTuple l1 xs) (hl2 : s.heap.IsList l2 ys)
    (h : ∀ h', IsZip h' (s.heap.objs.size + 4) (s.heap.objs.size + 2) (s.heap.objs.size + 3) .none → IsPair h' (s.heap.objs.size + 2) (.ref s.heap.objs.size) (.ref (s.heap.objs.size + 1)) →
      IsPair h' (s.heap.objs.size + 3) .none .none → h'.IsTupleIter s.heap.objs.size l1 0 → h'.IsListIter (s.heap.objs.size + 1) l2 0 → (∀ c o, s.heap.get? c = some o → h'.get? c = some o) → Q (.ref (s.heap.objs.size + 4)) { s with heap := h' }) :
    wpAny (model prog w) A (call (.type "zip") [.ref l1, .ref l2]) Q E s := by
  refine callType_new F.called_zip (by decide) (F.typeCall_zip_2 _ _) (F.newCall_zip_2 _ _) (fun obj => F.args_object_init_3 obj _ _) F.entry_zip_new (meets_zm_new l1 l2 xs ys) ⟨hl1, hl2, ?_⟩
  have z1 : (zm1 s.heap l1).objs.size = s.heap.objs.size + 1 := Heap.size_push ..
  have z2 : (zm2 s.heap l1 l2).objs.size = s.heap.objs.size + 2 := by rw [Heap.size_push, z1]
  have z3 : (zm3 s.heap l1 l2).objs.size = s.heap.objs.size + 3 := by rw [Heap.size_push, z2]
  have z4 : (zm4 s.heap l1 l2).objs.size = s.heap.objs.size + 4 := by rw [Heap.size_push, z3]
  have up : ∀ {h : Heap} {c : Addr} {o o' : Obj}, h.get? c = some o → (h.push o').get? c = some o := fun e => Heap.get?_push_of_some _ e
  have g5 : (zm5 s.heap l1 l2).get? (zm4 s.heap l1 l2).objs.size = some _ := Heap.get?_push_size _ rfl
  have g4 : (zm5 s.heap l1 l2).get? (zm3 s.heap l1 l2).objs.size = some _ := up (Heap.get?_push_size _ rfl)
  have g3 : (zm5 s.heap l1 l2).get? (zm2 s.heap l1 l2).objs.size = some _ := up (up (Heap.get?_push_size _ rfl))
  have g2 : (zm5 s.heap l1 l2).get? (zm1 s.heap l1).objs.size = some _ := up (up (up (Heap.get?_push_size _ rfl)))
  have g1 : (zm5 s.heap l1 l2).get? s.heap.objs.size = some _ := up (up (up (up (Heap.get?_push_size _ rfl))))
  show _ ∧ _
  rw [z2, z3, z4] at g5
  rw [z1, z2] at g3
  rw [z3] at g4
  rw [z1] at g2
  rw [z4]
  exact ⟨⟨_, g5, rfl⟩, h _ g5 g3 g4 ⟨_, g1, rfl, rfl⟩ ⟨_, g2, rfl, rfl⟩ fun c o x => up (up (up (up (up x))))⟩
end
/-- the tuple at a and the list at b as they stand at each turn -/
def ItzM (K : PySem.W.Frag) (a b : Addr) : It :=
  ⟨fun i H => ∃ (xs ys : List V) (x y : V), SqT K H a xs ∧ SqL K H b ys ∧ xs[i]? = some x ∧ ys[i]? = some y,
    fun i H v H' => ∃ T x y, v = .ref T ∧ H T = none ∧ H' = upd H T (.tup [x, y]) ∧ (∀ xs, SqT K H a xs → xs[i]? = some x) ∧ ∀ ys, SqL K H b ys → ys[i]? = some y,
    fun i H => ∃ xs ys : List V, SqT K H a xs ∧ SqL K H b ys ∧ (xs.length ≤ i ∨ ys.length ≤ i)⟩
theorem turn_zm {P : Program} {w : World} {K : PySem.W.Frag} {elts : List Expr} {kk : Nat} {tpos : Pos} {a b z TI TO i1 i2 : Addr} (D : ZipApart z TI TO i1 i2 a b) :
    Turn P w K (.Tuple elts kk tpos) (ItzM K a b) [z, TI, TO, i1, i2] z (fun i h => IsZip h z TI TO .none ∧ IsPair h TI (.ref i1) (.ref i2) ∧ (∃ x y, IsPair h TO x y) ∧ h.IsTupleIter i1 a i ∧ h.IsListIter i2 b i) where
  mem := by simp
  obj := fun i h st c hc => by
    obtain ⟨hz, hTI, ⟨x, y, hTO⟩, ⟨o1, e1, _, d1⟩, ⟨o2, e2, _, d2⟩⟩ := st
    have e' : c = z ∨ c = TI ∨ c = TO ∨ c = i1 ∨ c = i2 := by simpa using hc
    rcases e' with q | q | q | q | q
    · rw [q]; exact ⟨_, hz, fun v q => nomatch q⟩
    · rw [q]; exact ⟨_, hTI, fun v q => nomatch q⟩
    · rw [q]; exact ⟨_, hTO, fun v q => nomatch q⟩
    · rw [q]; exact ⟨o1, e1, fun v q => by rw [d1] at q; cases q⟩
    · rw [q]; exact ⟨o2, e2, fun v q => by rw [d2] at q; cases q⟩
  keep := fun i h h' st k => by
    obtain ⟨hz, hTI, ⟨x, y, hTO⟩, h1, h2⟩ := st
    exact ⟨k z (by simp) _ hz, k TI (by simp) _ hTI, ⟨x, y, k TO (by simp) _ hTO⟩, h1.at fun o q => k i1 (by simp) o q, h2.at fun o q => k i2 (by simp) o q⟩
  item := by
    intro X hP hw hK hc i pins s σ H E I hf st hg
    subst hP hw hK
    obtain ⟨hz, hTI, ⟨x0, y0, hTO⟩, h1, h2⟩ := st
    obtain ⟨xs, ys, x, y, hqx, hqy, hx, hy⟩ := hg
    obtain ⟨its, rv, p, _⟩ := I.tuple hqx
    obtain ⟨its2, rv2, p2, _⟩ := I.list hqy
    obtain ⟨u, hu, ru⟩ := rv.get hx
    obtain ⟨u2, hu2, ru2⟩ := rv2.get hy
    have hzl : z < s.heap.objs.size := Heap.lt_size hz
    refine nextG_item nx_tup nx_list D hz hTI hTO h1 h2 p p2.isList (x := u) (y := u2) (by simpa using hu) (by simpa using hu2) fun h' z' TO' h1' h2' hT hsz hk => ?_
    refine ⟨_, rfl, wpAny_letOwnedTupleGo_zip (s := { s with heap := h' }) z' fun h'' z'' sb => ?_⟩
    have hT2 : h''.get? s.heap.objs.size = some { cls := .type "tuple", data := .seq #[u, u2] } := (sb.2 _ (Nat.ne_of_gt hzl)).trans hT
    have new : ObjOk X.prog X.w (upd H s.heap.objs.size (.tup [x, y])) h'' s.heap.objs.size (.tup [x, y]) :=
      ⟨by show 2 ≤ sizeLine; decide, [u, u2], .cons ru (.cons ru2 .nil), ⟨_, hT2, rfl, _, rfl⟩⟩
    have I1 : Inv X pins σ (upd H s.heap.objs.size (.tup [x, y])) { s with heap := h'' } :=
      I.turnedNew (t' := s.toks) (ch := [z, TI, TO, i1, i2]) (fun c o hb q => (sb.2 c (fun q' => hb (by simp [q']))).trans (hk c o (fun q' => hb (by simp [q'])) (fun q' => hb (by simp [q'])) (fun q' => hb (by simp [q'])) (fun q' => hb (by simp [q'])) q)) hf (Nat.le_refl _) new
    refine ⟨.ref s.heap.objs.size, _, I1, rfl, ⟨_, x, y, rfl, I.hok.fresh (Nat.le_refl _), rfl, fun l hl => by rw [I.tuple_inj hl hqx]; exact hx, fun l hl => by rw [I.list_inj hl hqy]; exact hy⟩, ⟨z'', ?_, ⟨u, u2, ?_⟩, ?_, ?_⟩, fun c hcm => ?_⟩
    · exact (sb.2 _ D.TIz).trans (hk _ _ D.TIz D.TITO D.TIi1 D.TIi2 hTI)
    · exact (sb.2 _ D.TOz).trans TO'
    · exact h1'.at fun o q => (sb.2 _ D.i1z).trans q
    · exact h2'.at fun o q => (sb.2 _ D.i2z).trans q
    · have hlt : c < s.heap.objs.size := by
        have e' : c = z ∨ c = TI ∨ c = TO ∨ c = i1 ∨ c = i2 := by simpa using hcm
        rcases e' with q | q | q | q | q
        · rw [q]; exact hzl
        · rw [q]; exact Heap.lt_size hTI
        · rw [q]; exact Heap.lt_size hTO
        · rw [q]; obtain ⟨_, e1, _⟩ := h1; exact Heap.lt_size e1
        · rw [q]; obtain ⟨_, e2, _⟩ := h2; exact Heap.lt_size e2
      rw [upd_ne (Nat.ne_of_lt hlt)]
      exact (hf c hcm).1
  done := by
    intro X hP hw hK hc i pins s σ H E I hf st hg
    subst hP hw hK
    obtain ⟨hz, hTI, ⟨x0, y0, hTO⟩, h1, h2⟩ := st
    obtain ⟨xs, ys, hqx, hqy, hend⟩ := hg
    obtain ⟨its, rv, p, _⟩ := I.tuple hqx
    obtain ⟨its2, rv2, p2, _⟩ := I.list hqy
    have l1 := rv.length
    have l2 := rv2.length
    have he : its.toArray[i]? = none ∨ its2.toArray[i]? = none := by
      rcases hend with q | q
      · exact .inl (by simp; omega)
      · exact .inr (by simp; omega)
    exact nextG_end nx_tup nx_list (I.ok.hd hc) D hz hTI hTO h1 h2 p p2.isList he fun h' hk => ⟨rfl, I.turnedL (t' := s.toks) (ch := [z, TI, TO, i1, i2]) (fun c o hb q =>
      hk c o (fun q' => hb (by simp [q'])) (fun q' => hb (by simp [q'])) (fun q' => hb (by simp [q'])) (fun q' => hb (by simp [q'])) q) hf⟩
  self := fun A i s Q E st h => wpAny_pyIter_zip st.1 h
def iZipM (K : PySem.W.Frag) (ta : TA) : TI := fun σ H R => ta σ H fun vs H1 => ∃ a b xs ys, vs = [.ref a, .ref b] ∧ SqT K H1 a xs ∧ SqL K H1 b ys ∧ R (ItzM K a b) H1
theorem pi_zipM {X : Cx} {e e2 : Expr} {ta : TA} {p pos tpos : Pos} {elts : List Expr} {kk : Nat} (hg : Gl X "zip") (hm : X.mg "zip" = none) (ha : PA X [e, e2] ta)
    (hs : starEach [e, e2] X.env = (false, eval e X.env) :: starEach [e2] X.env := by rfl) (hpl : (backTo pos (starEach [e2] X.env)).any (·.1) = false := by rfl) :
    PI X (.Tuple elts kk tpos) (.Call (.Name "zip" p) [e, e2] [] pos) (iZipM X.K ta) := by
  refine ⟨fun pins s σ H R I h => ?_⟩
  refine Call_ (ld_blt I hg hm PyProof.Rows.boot_zip (PyProof.Rows.callWith_type1 (thn (ha.run pos pins s σ H _ I h) fun us s1 ⟨vs, H1, I1, r1, q1⟩ => ?_) hs hpl))
  obtain ⟨a, b, xs, ys, ex, hqx, hqy, q⟩ := q1
  subst ex
  cases r1 with
  | cons r rr =>
    cases rr with
    | cons r' rr =>
      cases rr
      cases r
      cases r'
      obtain ⟨its, rv, p1, _⟩ := I1.tuple hqx
      obtain ⟨its2, rv2, p2, _⟩ := I1.list hqy
      obtain ⟨o1, ho1, _⟩ := id p1
      refine call_zm (show s1.heap.IsTuple a its.toArray from p1) p2.isList fun h' hz hTI hTO h1 h2 hk => wpAny_pyIter_zip hz ?_
      have I2 : Inv X pins σ H1 { s1 with heap := h' } := I1.kept (t' := s1.toks) hk
      refine ⟨s1.heap.objs.size + 4, [s1.heap.objs.size + 4, s1.heap.objs.size + 2, s1.heap.objs.size + 3, s1.heap.objs.size, s1.heap.objs.size + 1], _, _, H1, rfl, I2, turn_zm (PySem.W.ktu_apart s1.heap.objs.size a b (Heap.lt_size ho1) p2.lt), ⟨hz, hTI, ⟨_, _, hTO⟩, h1, h2⟩, fun c hcm => ?_, q⟩
      have hle : s1.heap.objs.size ≤ c := by
        have e' : c = s1.heap.objs.size + 4 ∨ c = s1.heap.objs.size + 2 ∨ c = s1.heap.objs.size + 3 ∨ c = s1.heap.objs.size ∨ c = s1.heap.objs.size + 1 := by simpa using hcm
        rcases e' with q | q | q | q | q <;> rw [q] <;> first | exact Nat.le_add_right _ _ | exact Nat.le_refl _
      exact I1.fpOk hle (I1.hok.fresh hle)
theorem walk_zm {K : PySem.W.Frag} {a b : Addr} {xs ys : List V} : Walk (ItzM K a b) (min xs.length ys.length) (fun H => SqT K H a xs ∧ SqL K H b ys) (YPair (fun i => xs[i]?) (fun i => ys[i]?)) := by
  refine ⟨fun i _ hi q => ?_, fun _ q => ⟨xs, ys, q.1, q.2, by omega⟩, fun i H v H' _ q y => ?_⟩
  · have h1 : i < xs.length := by omega
    have h2 : i < ys.length := by omega
    exact ⟨xs, ys, xs[i], ys[i], q.1, q.2, by simp [h1], by simp [h2]⟩
  · obtain ⟨T, x, z, h1, h2, h3, h4, h5⟩ := y
    exact ⟨T, x, z, h1, h2, h3, h4 xs q.1, h5 ys q.2⟩
section
variable {X : Cx} {W : WX} {e e2 : Expr} {fa : XA}
/-- zip of a tuple and a list that stays -/
def xZipM (g : XA) : XI := fun η M => (g η M).bind fun ds M1 => match ds with
  | [.tup xs, .lst ys] => .ok (xs.zip ys |>.map fun q => .tup [q.1, q.2]) M1
  | _ => .no
theorem di_zipM {p0 pos tpos : Pos} {elts : List Expr} {kk : Nat} (hg : Gl X "zip") (hm : X.mg "zip" = none) (ha : DA X W [e, e2] fa)
    (hs : starEach [e, e2] X.env = (false, eval e X.env) :: starEach [e2] X.env := by rfl) (hpl : (backTo pos (starEach [e2] X.env)).any (·.1) = false := by rfl) : DI X W (.Tuple elts kk tpos) (.Call (.Name "zip" p0) [e, e2] [] pos) (xZipM fa) :=
  PI.imp (pi_zipM hg hm ha hs hpl) fun σ H Q z => by
    obtain ⟨η, F, B, ρ, M, er, m, w⟩ := z
    refine ⟨η, F, B, ρ, M, er, m, w.bind fun ds M1 B1 ρ1 H1 l1 m1 w1 vs rv => ?_⟩
    split at w1
    · next xs ys =>
      cases rv with
      | cons r rr =>
        cases rr with
        | cons r' rr =>
          cases rr
          cases r with
          | tup e1 q1 =>
            cases r' with
            | lst e2 q2 =>
              exact ⟨_, _, _, _, rfl, ex_t m1.ex e1, sq_of (m1.ex _ _ e2), Wp.ret w1 m1 _ (walk_pair walk_zm (fun H hH => ⟨ex_t hH e1, sq_of (hH _ _ e2)⟩) q1 q2)⟩
    · exact w1.elim
end
end Dn

/-! DnDict: dicts by tuples of texts and ints -/
namespace Dn
open PySem PyProof.Rows L2 Evl
def asK1 : D → Option L2.Key
  | .int i => some (.inl i)
  | .str s => some (.inr s)
  | _ => none
def asKs : List D → Option (List L2.Key)
  | [] => some []
  | d :: ds => (asK1 d).bind fun k => (asKs ds).map (k :: ·)
/-- a tuple as a key (not the empty one) -/
def asKey : D → Option (List L2.Key)
  | .tup (d :: ds) => asKs (d :: ds)
  | _ => none
section
variable {K : PySem.W.Frag} {F B H : Hp} {ρ : List Addr} {M : Mem}
theorem asKs_snd : ∀ {ds : List D} {vs : List V} {ks : List L2.Key}, Rps K B ρ ds vs → asKs ds = some ks → vs = ks.map kV
  | _, _, _, .nil, h => by cases h; rfl
  | _, _, _, .cons (d := d) (ds := ds) r t, h => by
    unfold asKs at h
    cases h1 : asK1 d with
    | none => simp [h1] at h
    | some k =>
      cases h2 : asKs ds with
      | none => simp [h1, h2] at h
      | some ks =>
        simp [h1, h2] at h
        subst h
        rw [asKs_snd t h2]
        cases r <;> simp [asK1] at h1 <;> subst h1 <;> rfl
theorem asKey_snd (m : MR K F B ρ M H) {d : D} {v : V} {k : List L2.Key} (r : Rp K B ρ d v) (h : asKey d = some k) : ∃ b, v = .ref b ∧ H b = some (.tup (k.map kV)) := by
  cases r with
  | @tup a vs ds e q z =>
    unfold asKey at h
    split at h
    · next d0 ds0 hd =>
      injection hd with hd
      subst hd
      have ev := asKs_snd q h
      subst ev
      rcases z with z | z
      · have := q.len
        rw [z] at this
        simp at this
      · exact ⟨a, rfl, m.ex _ _ z⟩
    · cases h
  | _ => simp [asKey] at h
end
section
variable {κ : Type} [DecidableEq κ]
def valD (kds : List (κ × D)) (k : κ) : Option D := (kds.find? fun kv => decide (kv.1 = k)).map (·.2)
def putD (kds : List (κ × D)) (k : κ) (v : D) : List (κ × D) :=
  if (kds.any fun kv => decide (kv.1 = k)) = true then kds.map (fun kv => if kv.1 = k then (kv.1, v) else kv) else kds ++ [(k, v)]
variable {K : PySem.W.Frag} {B : Hp} {ρ : List Addr}
theorem valD_snd : ∀ {kds : List (κ × D)} {kvs : List (κ × V)} {k : κ} {d : D}, Paired (PrD K B ρ) kds kvs → valD kds k = some d → ∃ v, valV kvs k = some v ∧ Rp K B ρ d v
  | _, _, _, _, .nil, h => by simp [valD] at h
  | p :: kds, q :: kvs, k, d, .cons r t, h => by
    obtain ⟨r1, r2⟩ := r
    by_cases e : p.1 = k
    · have h' : some p.2 = some d := by simpa [valD, List.find?_cons, e] using h
      cases h'
      exact ⟨q.2, by simp [valV, List.find?_cons, ← r1, e], r2⟩
    · have h' : valD kds k = some d := by simpa [valD, List.find?_cons, e] using h
      obtain ⟨v, h1, h2⟩ := valD_snd t h'
      refine ⟨v, ?_, h2⟩
      have e' : ¬ q.1 = k := by rw [← r1]; exact e
      simpa [valV, List.find?_cons, e'] using h1
theorem valD_none : ∀ {kds : List (κ × D)} {kvs : List (κ × V)} {k : κ}, Paired (PrD K B ρ) kds kvs → valD kds k = none → valV kvs k = none
  | _, _, _, .nil, _ => rfl
  | p :: kds, q :: kvs, k, .cons r t, h => by
    obtain ⟨r1, r2⟩ := r
    by_cases e : p.1 = k
    · simp [valD, List.find?_cons, e] at h
    · have h' : valD kds k = none := by simpa [valD, List.find?_cons, e] using h
      have e' : ¬ q.1 = k := by rw [← r1]; exact e
      simpa [valV, List.find?_cons, e'] using valD_none t h'
theorem pr_len : ∀ {kds : List (κ × D)} {kvs : List (κ × V)}, Paired (PrD K B ρ) kds kvs → kds.length = kvs.length
  | _, _, .nil => rfl
  | _, _, .cons _ t => by simp [pr_len t]
theorem pr_any {k : κ} : ∀ {kds : List (κ × D)} {kvs : List (κ × V)}, Paired (PrD K B ρ) kds kvs → (kds.any fun kv => decide (kv.1 = k)) = (kvs.any fun kv => decide (kv.1 = k))
  | _, _, .nil => rfl
  | _, _, .cons r t => by simp [pr_any t, r.1]
theorem pr_map {k : κ} {d : D} {v : V} (h : Rp K B ρ d v) : ∀ {kds : List (κ × D)} {kvs : List (κ × V)}, Paired (PrD K B ρ) kds kvs → Paired (PrD K B ρ) (kds.map fun kv => if kv.1 = k then (kv.1, d) else kv) (kvs.map fun kv => if kv.1 = k then (kv.1, v) else kv)
  | _, _, .nil => .nil
  | p :: _, q :: _, .cons r t => by
    refine .cons ?_ (pr_map h t)
    obtain ⟨r1, r2⟩ := r
    show PrD K B ρ (if p.1 = k then (p.1, d) else p) (if q.1 = k then (q.1, v) else q)
    by_cases e : p.1 = k
    · rw [if_pos e, if_pos (by rw [← r1]; exact e)]; exact ⟨r1, h⟩
    · rw [if_neg e, if_neg (by rw [← r1]; exact e)]; exact ⟨r1, r2⟩
theorem pr_app : ∀ {kds : List (κ × D)} {kvs : List (κ × V)} {p : κ × D} {q : κ × V}, Paired (PrD K B ρ) kds kvs → PrD K B ρ p q → Paired (PrD K B ρ) (kds ++ [p]) (kvs ++ [q])
  | _, _, _, _, .nil, h => .cons h .nil
  | _, _, _, _, .cons r t, h => .cons r (pr_app t h)
theorem putD_snd {kds : List (κ × D)} {kvs : List (κ × V)} {k : κ} {d : D} {v : V} (p : Paired (PrD K B ρ) kds kvs) (h : Rp K B ρ d v) : Paired (PrD K B ρ) (putD kds k d) (putK kvs k v) := by
  unfold putD putK
  rw [pr_any (k := k) p]
  split
  · exact pr_map h p
  · exact pr_app p ⟨rfl, h⟩
end
section
variable {X : Cx} {W : WX} {o i e value : Expr} {pos pos' apos : Pos} {f g h : XE}
theorem MR.dictT {K : PySem.W.Frag} {F B H : Hp} {ρ : List Addr} {M : Mem} (m : MR K F B ρ M H) {n : Nat} {a : Addr} {kds : List (List L2.Key × D)} (ha : ρ[n]? = some a) (hm : M[n]? = some (.dT kds)) : ∃ kvs, H a = some (.dT kvs) ∧ Paired (PrD K B ρ) kds kvs ∧ B a = none := by
  obtain ⟨b, hb, hB, kvs, e, r⟩ := m.ob n _ hm
  rw [ha] at hb
  cases hb
  exact ⟨kvs, e, r, hB (by intro z; cases z)⟩
/-- d[y] -/
def gdT : Op2 := fun M x y => match x with
  | .ptr n => match M[n]? with
    | some (.dT kds) => (asKey y).bind (valD kds)
    | _ => none
  | _ => none
theorem de_dget {k : Nat} (hr : Room k X.A) (ho : DE X W o f) (hi : DE X W i g) (hs : NoSl i) : DE X W (.Subscript o i pos) (xOp gdT f g) :=
  PE.imp (pe_dget (by have := hr.un; omega) ho hi hs) fun σ H Q z => by
    obtain ⟨η, F, B, ρ, M, er, m, w⟩ := z
    refine ⟨η, F, B, ρ, M, er, m, w.bind fun dx M1 B1 ρ1 H1 l1 m1 w1 x rx => ?_⟩
    refine ⟨η, F, B1, ρ1, M1, er.mono l1, m1, w1.bind fun dy M2 B2 ρ2 H2 l2 m2 w2 y ry => ?_⟩
    obtain ⟨dz, hz, w3⟩ := w2.of
    have rx2 := rx.mono l2
    cases rx2 with
    | @ptr n a ha =>
      unfold gdT at hz
      dsimp only at hz
      split at hz
      · next kds hm =>
        cases hk : asKey dy with
        | none => simp [hk] at hz
        | some ky =>
          simp only [hk, Option.bind_some] at hz
          obtain ⟨kvs, hH, pr, _⟩ := m2.dictT ha hm
          obtain ⟨b, rfl, hb⟩ := asKey_snd m2 ry hk
          obtain ⟨v, hv, rv⟩ := valD_snd pr hz
          exact ⟨a, v, rfl, by rw [← hv]; exact DGet.t hH hb, Wp.ret w3 m2 v rv⟩
      · cases hz
    | _ => simp [gdT] at hz
/-- d[y] = v -/
def xDPut (v o i : XE) : XS := fun η M => (v η M).bind fun d M1 => (o η M1).bind fun l M2 => (i η M2).bind fun y M3 => match l with
  | .ptr n => match M3[n]? with
    | some (.dT kds) => match asKey y with
      | some k => if kds.length < 100000 then .ok (.nx η) (M3.set n (.dT (putD kds k d))) else .no
      | none => .no
    | _ => .no
  | _ => .no
theorem ds_dput {k : Nat} (hr : Room k X.A) (hv : DE X W value h) (ho : DE X W o f) (hi : DE X W i g) (hs : swapsWith value (some (.Subscript o i pos')) pos.line X.env = pure false := by rfl) : DS X W (.Assign [.Subscript o i pos'] value pos) (xDPut h f g) :=
  PS.imp (ps_dput (by have := hr.un; omega) ho hi hv hs) fun E σ H z => by
    obtain ⟨η, F, B, ρ, M, er, m, w⟩ := z
    refine ⟨η, F, B, ρ, M, er, m, w.bind fun dv M1 B1 ρ1 H1 l1 m1 w1 v rv => ?_⟩
    refine ⟨η, F, B1, ρ1, M1, er.mono l1, m1, w1.bind fun dx M2 B2 ρ2 H2 l2 m2 w2 x rx => ?_⟩
    refine ⟨η, F, B2, ρ2, M2, er.mono (l1.trans l2), m2, w2.bind fun dy M3 B3 ρ3 H3 l3 m3 w3 y ry => ?_⟩
    have rx3 := rx.mono l3
    cases rx3 with
    | @ptr n a ha =>
      dsimp only at w3
      split at w3
      · next kds hm =>
        split at w3
        · next ky hk =>
          split at w3
          · next hlt =>
            obtain ⟨kvs, hH, pr, _⟩ := m3.dictT ha hm
            obtain ⟨b, rfl, hb⟩ := asKey_snd m3 ry hk
            have hl := pr_len pr
            refine ⟨a, _, rfl, DPut.t (v := v) hH hb (by rw [sizeLine_eq]; omega), ?_⟩
            exact w3 _ _ _ (Le.refl _ _) (m3.put (o := .dT (putK kvs ky v)) (ob := .dT (putD kds ky dv)) ha hm (by intro z; cases z) ⟨_, upd_same, putD_snd pr (rv.mono (l2.trans l3))⟩) σ (er.mono ((l1.trans l2).trans l3))
          · exact w3.elim
        · exact w3.elim
      · exact w3.elim
    | _ => exact w3.elim
end
end Dn

/-! DnCls: instances: fields, methods, making, freezing -/
namespace Dn
open PySem PyProof.Rows L2 Evl
/-- a class by its name, with fields that no class of it has -/
structure ClsD (K : PySem.W.Frag) (x : Str) (fls : List Str) : Prop where
  ex : ∃ C : Addr, PySem.W.nsIn K mainGlobals x = some (some (.ref C)) ∧ Cls K C ∧ ∀ f ∈ fls, NoAttr K C f
def asIns (M : Mem) : D → Option (Str × List (Str × D))
  | .ins x fs => some (x, fs)
  | .ptr n => match M[n]? with
    | some (.ins x fs) => some (x, fs)
    | _ => none
  | _ => none
section
variable {X : Cx} {W : WX} {o e value : Expr} {es : List Expr} {pos pos' apos : Pos} {f g fo : XE} {fa : XA} {x fl m : Str} {fls : List Str}
theorem MR.inst {K : PySem.W.Frag} {F B H : Hp} {ρ : List Addr} {M : Mem} (m : MR K F B ρ M H) {n : Nat} {a : Addr} {x : Str} {fs : List (Str × D)} (ha : ρ[n]? = some a) (hm : M[n]? = some (.ins x fs)) :
    ∃ (C dx : Addr) (gs : List (Str × V)), PySem.W.nsIn K mainGlobals x = some (some (.ref C)) ∧ H a = some (.ins C dx gs) ∧ Paired (PrD K B ρ) fs gs ∧ B a = none := by
  obtain ⟨b, hb, hB, C, dx, gs, hc, e, r⟩ := m.ob n _ hm
  rw [ha] at hb
  cases hb
  exact ⟨C, dx, gs, hc, e, r, hB (by intro z; cases z)⟩
theorem asIns_snd {K : PySem.W.Frag} {F B H : Hp} {ρ : List Addr} {M : Mem} (m : MR K F B ρ M H) {d : D} {v : V} {x : Str} {fs : List (Str × D)} (r : Rp K B ρ d v) (h : asIns M d = some (x, fs)) :
    ∃ (a C dx : Addr) (gs : List (Str × V)), v = .ref a ∧ PySem.W.nsIn K mainGlobals x = some (some (.ref C)) ∧ H a = some (.ins C dx gs) ∧ Paired (PrD K B ρ) fs gs := by
  cases r with
  | @ptr n a ha =>
    unfold asIns at h
    dsimp only at h
    split at h
    · next y gs hm =>
      cases h
      obtain ⟨C, dx, gs, hc, e, q, _⟩ := m.inst ha hm
      exact ⟨a, C, dx, gs, rfl, hc, e, q⟩
    · cases h
  | @ins a C dx y gs fs hc e q =>
    cases h
    exact ⟨a, C, dx, gs, rfl, hc, m.ex _ _ e, q.prs⟩
  | _ => cases h
theorem look_snd {K : PySem.W.Frag} {B : Hp} {ρ : List Addr} {fl : Str} {d : D} : ∀ {fs : List (Str × D)} {gs : List (Str × V)}, Paired (PrD K B ρ) fs gs → fs.lookup fl = some d → ∃ v, gs.lookup fl = some v ∧ Rp K B ρ d v
  | _, _, .nil, h => by simp at h
  | (a, d0) :: _, (b, v0) :: _, .cons r t, h => by
    obtain ⟨r1, r2⟩ := r
    have r1 : a = b := r1
    subst r1
    rw [List.lookup_cons] at h ⊢
    split at h
    · next e => cases h; exact ⟨v0, by simp, r2⟩
    · next e => exact look_snd t h
theorem look_none {K : PySem.W.Frag} {B : Hp} {ρ : List Addr} {fl : Str} : ∀ {fs : List (Str × D)} {gs : List (Str × V)}, Paired (PrD K B ρ) fs gs → fs.lookup fl = none → gs.lookup fl = none
  | _, _, .nil, h => rfl
  | (a, d0) :: _, (b, v0) :: _, .cons r t, h => by
    obtain ⟨r1, r2⟩ := r
    have r1 : a = b := r1
    subst r1
    rw [List.lookup_cons] at h ⊢
    split at h
    · cases h
    · next e => exact look_none t h
/-- o.fl, a field of an instance of x -/
def xFld (x fl : Str) (f : XE) : XE := fun η M => (f η M).bind fun d M1 => match asIns M1 d with
  | some (y, fs) => if y = x then R.of (fs.lookup fl) M1 else .no
  | none => .no
theorem de_fld (c : ClsD X.K x fls) (hf : fl ∈ fls) (ho : DE X W o f) (hb : attributeBase o fl X.env (eval o X.env) = eval o X.env := by rfl) : DE X W (.Attribute o fl pos) (xFld x fl f) := PE.imp (pe_fld ho hb) fun σ H Q z => by
  obtain ⟨C, hC, cl, na⟩ := c.ex
  obtain ⟨η, F, B, ρ, M, er, m, w⟩ := z
  refine ⟨η, F, B, ρ, M, er, m, w.bind fun d M1 B1 ρ1 H1 l1 m1 w1 v rv => ?_⟩
  split at w1
  · next y fs hi =>
    split at w1
    · next hy =>
      subst hy
      obtain ⟨dz, hz, w2⟩ := w1.of
      obtain ⟨a, C', dx, gs, rfl, hc, hH, pr⟩ := asIns_snd m1 rv hi
      rw [hC] at hc
      cases hc
      obtain ⟨v, hv, rv⟩ := look_snd pr hz
      exact ⟨a, C, dx, gs, v, rfl, hH, cl, na fl hf, hv, Wp.ret w2 m1 v rv⟩
    · exact w1.elim
  · exact w1.elim
/-- o.fl = v -/
def putFD (f : Str) (v : D) : List (Str × D) → List (Str × D)
  | [] => [(f, v)]
  | (g, x) :: r => if g = f then (g, v) :: r else (g, x) :: putFD f v r
theorem putFD_snd {K : PySem.W.Frag} {B : Hp} {ρ : List Addr} {fl : Str} {d : D} {v : V} (h : Rp K B ρ d v) : ∀ {fs : List (Str × D)} {gs : List (Str × V)}, Paired (PrD K B ρ) fs gs →
    Paired (PrD K B ρ) (putFD fl d fs) (putF fl v gs)
  | _, _, .nil => .cons ⟨rfl, h⟩ .nil
  | (a, d0) :: _, (b, v0) :: _, .cons r t => by
    obtain ⟨r1, r2⟩ := r
    have r1 : a = b := r1
    subst r1
    unfold putFD putF
    by_cases e : a = fl
    · rw [if_pos e, if_pos e]; exact .cons ⟨rfl, h⟩ t
    · rw [if_neg e, if_neg e]; exact .cons ⟨rfl, r2⟩ (putFD_snd h t)
/-- told otherwise -/
theorem putFD_tell {K : PySem.W.Frag} {B : Hp} {ρ : List Addr} {fl : Str} {d : D} {v : V} (h : Rp K B ρ d v) : ∀ {fs : List (Str × D)} {gs : List (Str × V)}, Paired (PrD K B ρ) fs gs → gs.lookup fl = some v → Paired (PrD K B ρ) (putFD fl d fs) gs
  | _, _, .nil, q => by simp at q
  | (a, d0) :: _, (b, v0) :: _, .cons r t, q => by
    obtain ⟨r1, r2⟩ := r
    have r1 : a = b := r1
    subst r1
    unfold putFD
    rw [List.lookup_cons] at q
    by_cases e : a = fl
    · subst e
      simp at q
      subst q
      rw [if_pos rfl]; exact .cons ⟨rfl, h⟩ t
    · have e' : (fl == a) = false := by simpa using fun z => e z.symm
      rw [e'] at q
      rw [if_neg e]; exact .cons ⟨rfl, r2⟩ (putFD_tell h t q)
def xSetF (x fl : Str) (v o : XE) : XS := fun η M => (v η M).bind fun d M1 => (o η M1).bind fun y M2 => match y with
  | .ptr n => match M2[n]? with
    | some (.ins y fs) => if y = x ∧ fs.length < 1000 then .ok (.nx η) (M2.set n (.ins y (putFD fl d fs))) else .no
    | _ => .no
  | _ => .no
theorem fs_len {K : PySem.W.Frag} {B : Hp} {ρ : List Addr} : ∀ {fs : List (Str × D)} {gs : List (Str × V)}, Paired (PrD K B ρ) fs gs → fs.length = gs.length
  | _, _, .nil => rfl
  | _, _, .cons _ t => by simp [fs_len t]
theorem ds_setF (c : ClsD X.K x fls) (hf : fl ∈ fls) (hv : DE X W value g) (ho : DE X W o f) (hs : swapsWith value (some (.Attribute o fl pos')) pos.line X.env = pure false := by rfl) : DS X W (.Assign [.Attribute o fl pos'] value pos) (xSetF x fl g f) := PS.imp (ps_fld ho hv hs) fun E σ H z => by
  obtain ⟨C, hC, cl, na⟩ := c.ex
  obtain ⟨η, F, B, ρ, M, er, m, w⟩ := z
  refine ⟨η, F, B, ρ, M, er, m, w.bind fun dv M1 B1 ρ1 H1 l1 m1 w1 v rv => ?_⟩
  refine ⟨η, F, B1, ρ1, M1, er.mono l1, m1, w1.bind fun dy M2 B2 ρ2 H2 l2 m2 w2 y ry => ?_⟩
  cases ry with
  | @ptr n a ha =>
    dsimp only at w2
    split at w2
    · next y fs hm =>
      split at w2
      · next hy =>
        obtain ⟨hy, hlt⟩ := hy
        subst hy
        obtain ⟨C', dx, gs, hc, hH, pr, _⟩ := m2.inst ha hm
        rw [hC] at hc
        cases hc
        have hl := fs_len pr
        refine ⟨a, C, dx, gs, rfl, hH, cl, na fl hf, by omega, ?_⟩
        exact w2 _ _ _ (Le.refl _ _) (m2.put (o := .ins C dx (putF fl v gs)) (ob := .ins y (putFD fl dv fs)) ha hm (by intro z; cases z) ⟨C, dx, _, hC, upd_same, putFD_snd (rv.mono l2) pr⟩) σ (er.mono (l1.trans l2))
      · exact w2.elim
    · exact w2.elim
  | _ => exact w2.elim

/-! ### methods, making -/
/-- a method of the class x: n parameters, self among them -/
structure MtD (P : Program) (w : World) (K : PySem.W.Frag) (mg : Str → Option Value) (base : Heap) (k : Nat) (x m : Str) (n : Nat) (f : Fn) : Prop where
  ex : ∃ (C a : Addr) (fd : FuncData) (ps : List Str), PySem.W.nsIn K mainGlobals x = some (some (.ref C)) ∧ Cls K C ∧ Meth K C m a ∧ FnOk P w K mg base CX0 k a fd ps (spF K mg n f) ∧ Binds K fd ps []
def xMeth (x m : Str) (n : Nat) (f : Fn) (fo : XE) (fa : XA) : XE := fun η M => (fo η M).bind fun d M1 => match asIns M1 d with
  | some (y, fs) => if y = x ∧ fs.lookup m = none then (fa η M1).bind fun ds M2 => if ds.length + 1 = n then f (d :: ds) M2 else .no else .no
  | none => .no
theorem meth_snd {C : Addr} {n : Nat} {fn : Fn} (hC : PySem.W.nsIn X.K mainGlobals x = some (some (.ref C))) (σ : L2.St) (H : Hp) (Q : VK) (z : tE X.K X.mg W (xMeth x m n fn fo fa) σ H Q) : tMeth C m (spF X.K X.mg n fn) [] E0 (tE X.K X.mg W fo) (tA X.K X.mg W fa) σ H Q := by
  obtain ⟨η, F, B, ρ, M, er, mm, w⟩ := z
  refine ⟨η, F, B, ρ, M, er, mm, w.bind fun d M1 B1 ρ1 H1 l1 m1 w1 v rv => ?_⟩
  split at w1
  · next y fs hi =>
    split at w1
    · next hy =>
      obtain ⟨hy, hlk⟩ := hy
      subst hy
      obtain ⟨a, C', dx, gs, rfl, hc, hH, pr⟩ := asIns_snd m1 rv hi
      rw [hC] at hc
      cases hc
      refine ⟨a, dx, gs, rfl, hH, look_none pr hlk, η, F, B1, ρ1, M1, er.mono l1, m1, w1.bind fun ds M2 B2 ρ2 H2 l2 m2 w2 vs rvs => ?_⟩
      split at w2
      · next hl =>
        rw [List.append_nil]
        exact ⟨_, d :: ds, F, B2, ρ2, M2, by simpa using hl, .cons (rv.mono l2) rvs, m2, w2⟩
      · exact w2.elim
    · exact w1.elim
  · exact w1.elim
theorem de_meth {k n : Nat} {fn : Fn} {pl : Sem Bool} (G : MtD X.prog X.w X.K X.mg X.base k x m n fn) (hr : Room k X.A) (ho : DE X W o fo) (ha : DA X W (e :: es) fa)
    (hst : starEach (e :: es) X.env = (false, eval e X.env) :: starEach es X.env := by rfl) (hpl : (backTo pos (starEach es X.env)).any (·.1) = false := by rfl)
    (ht : eval (.Call (.Attribute o m apos) (e :: es) [] pos) X.env = (do
      let ov ← eval o X.env
      standAt apos.atName
      let (f, first) ← holding [ov] (getMethod ov m pl)
      callWith pos f first (backTo pos (starEach (e :: es) X.env)) (backToKw pos (keywordEach [] X.env))) := by rfl) : DE X W (.Call (.Attribute o m apos) (e :: es) [] pos) (xMeth x m n fn fo fa) := by
  obtain ⟨C, ad, fd, ps, hC, cl, me, Fo, hb⟩ := G.ex
  exact PE.imp (pe_meth (E := E0) ho cl me Fo hr hb .nil passW ha hst hpl ht) (meth_snd hC)
theorem de_meth0 {k n : Nat} {fn : Fn} {pl : Sem Bool} (G : MtD X.prog X.w X.K X.mg X.base k x m n fn) (hr : Room k X.A) (ho : DE X W o fo)
    (ht : eval (.Call (.Attribute o m apos) [] [] pos) X.env = (do
      let ov ← eval o X.env
      standAt apos.atName
      let (f, first) ← holding [ov] (getMethod ov m pl)
      callWith pos f first (backTo pos (starEach [] X.env)) (backToKw pos (keywordEach [] X.env))) := by rfl) : DE X W (.Call (.Attribute o m apos) [] [] pos) (xMeth x m n fn fo xNil) := by
  obtain ⟨C, ad, fd, ps, hC, cl, me, Fo, hb⟩ := G.ex
  refine PE.imp (pe_meth0 (E := E0) ho cl me Fo hr hb .nil passW ht) fun σ H Q z => ?_
  have q := meth_snd hC σ H Q z
  obtain ⟨η, F, B, ρ, M, er, mm, w⟩ := q
  refine ⟨η, F, B, ρ, M, er, mm, w.imp fun d B1 ρ1 H1 l1 k v rv => ?_⟩
  obtain ⟨a, dx, gs, e1, e2, e3, η1, F1, B2, ρ2, M1, er1, m1, w1⟩ := k v rv
  exact ⟨a, dx, gs, e1, e2, e3, Wp.ret w1 m1 [] .nil⟩
/-- how the class x is made: by n values; dfl fill up -/
structure MkD (P : Program) (w : World) (K : PySem.W.Frag) (mg : Str → Option Value) (base : Heap) (k : Nat) (x : Str) (n : Nat) (dfl : List D) (f : Fn) : Prop where
  ex : ∃ (C a : Addr) (fd : FuncData) (ps : List Str) (ds : List Value) (dvs : List V), PySem.W.nsIn K mainGlobals x = some (some (.ref C)) ∧ mg x = some (.ref C) ∧ Mk K C a ∧ FnOk P w K mg base CX0 k a fd ps (spF K mg (1 + n + dfl.length) f) ∧ Binds K fd ps ds ∧ Vals dvs ds ∧ ∀ B ρ, Rps K B ρ dfl dvs
def madeD (n : Nat) : D → Mem → R D := fun r M => match r with
  | .non => .ok (.ptr n) M
  | _ => .no
def xMake (x : Str) (n : Nat) (dfl : List D) (f : Fn) (fa : XA) : XE := fun η M => (fa η M).bind fun ds M1 => if ds.length = n then (f (.ptr M1.length :: (ds ++ dfl)) (M1 ++ [.ins x []])).bind (madeD M1.length) else .no
theorem de_make {k n : Nat} {dfl : List D} {fn : Fn} {p0 : Pos} (G : MkD X.prog X.w X.K X.mg X.base k x n dfl fn) (hr : Room (k + 1) X.A) (hg : Gl X x) (ha : DA X W (e :: es) fa) (hdb : (x == ("__debug__" : Str)) = false := by decide)
    (he : starEach (e :: es) X.env = (false, eval e X.env) :: starEach es X.env := by rfl) (hpl : (backTo pos (starEach es X.env)).any (·.1) = false := by rfl) : DE X W (.Call (.Name x p0) (e :: es) [] pos) (xMake x n dfl fn fa) := by
  obtain ⟨C, ad, fd, ps, ds, dvs, hC, hm, mk, Fo, hb, hv, hR⟩ := G.ex
  refine PE.imp (pe_make (E := E0) mk Fo hr hg hm hb hv passW ha hdb he hpl) fun σ H Q z => ?_
  obtain ⟨η, F, B, ρ, M, er, mm, w⟩ := z
  refine ⟨η, F, B, ρ, M, er, mm, w.bind fun ds M1 B1 ρ1 H1 l1 m1 w1 vs rv => fun a dx na nd hne => ?_⟩
  split at w1
  · next hl =>
    have m2 := m1.more (Ex.new (o := .own a) nd)
    have na' : upd H1 dx (.own a) a = none := by rw [upd_ne (Ne.symm hne)]; exact na
    obtain ⟨m3, l3⟩ := m2.alloc (o := .ins C dx []) (ob := .ins x []) na' ⟨C, dx, [], hC, upd_same, .nil⟩
    have hp : (ρ1 ++ [a])[M1.length]? = some a := by rw [← m1.len]; simp
    refine ⟨_, .ptr M1.length :: (ds ++ dfl), F, B1, ρ1 ++ [a], M1 ++ [.ins x []], by simp [hl]; omega, .cons (.ptr hp) ((rv.mono l3).app (hR _ _)), m3, (w1.mono l3).bind fun r M2 B2 ρ2 H2 l2 m4 w2 v rv' => ?_⟩
    cases r with
    | non =>
      cases rv'
      exact ⟨rfl, Wp.ret w2 m4 _ (.ptr (l2.at hp))⟩
    | _ => exact w2.elim
  · exact w1.elim

/-! ### freezing -/
def xFz (f : XE) : XE := fun η M => (f η M).bind fun d M1 => match frz M1 d with
  | some (d', M2) => .ok d' M2
  | none => .no
theorem de_fz (h : DE X W e f) : DE X W e (xFz f) := PE.imp (pe_locks h) fun σ H Q z => by
  obtain ⟨η, F, B, ρ, M, er, m, w⟩ := z
  refine ⟨η, F, B, ρ, M, er, m, w.bind fun d M1 B1 ρ1 H1 l1 m1 w1 v rv => ?_⟩
  split at w1
  · next d' M2 hf =>
    exact (frz_snd m1 rv hf).bind fun H2 ⟨B2, l2, m2, r2, _⟩ => .here (w1 _ _ _ l2 m2 v r2)
  · exact w1.elim
/-- a field of a new instance is frozen -/
def frzF (M : Mem) (n : Nat) (fl : Str) : Option Mem := match M[n]? with
  | some (.ins x fs) => match fs.lookup fl with
    | some d => match frz M d with
      | some (d', M') => match M'[n]? with
        | some (.ins y gs) => if y = x ∧ gs.length = fs.length then some (M'.set n (.ins x (putFD fl d' fs))) else none
        | _ => none
      | none => none
    | none => none
  | _ => none
def frzFs (n : Nat) : List Str → Mem → Option Mem
  | [], M => some M
  | fl :: r, M => (frzF M n fl).bind (frzFs n r)
theorem frz_at {M M' : Mem} {d d' : D} {n : Nat} {o : Ob} (h : frz M d = some (d', M')) (hn : M[n]? = some o) (hn' : M'[n]? ≠ some .gone) : M'[n]? = some o := by
  unfold frz at h
  split at h
  · next k =>
    have key : ∀ o', some (o', M.set k Ob.gone) = some (d', M') → M'[n]? = some o := fun o' e => by
      cases e
      by_cases q : n = k
      · subst q
        have hl := (List.getElem?_eq_some_iff.mp hn).1
        exact absurd (List.getElem?_set_self hl) hn'
      · rw [List.getElem?_set_ne (Ne.symm q)]; exact hn
    split at h <;> first | exact key _ h | cases h
  · cases h; exact hn
theorem frzF_snd {K : PySem.W.Frag} {F B H : Hp} {ρ : List Addr} {M M' : Mem} (m : MR K F B ρ M H) {n : Nat} {a : Addr} {fl : Str} (ha : ρ[n]? = some a) (h : frzF M n fl = some M') : Lks (fun H' => ∃ B', Le B ρ B' ρ ∧ MR K F B' ρ M' H') H := by
  unfold frzF at h
  split at h
  · next x fs hm =>
    split at h
    · next d hd =>
      split at h
      · next d' M1 hf =>
        split at h
        · next y gs hm1 =>
          split at h
          · obtain ⟨C, dx, vs, hc, hH, pr, _⟩ := m.inst ha hm
            obtain ⟨v, hv, rv⟩ := look_snd pr hd
            refine (frz_snd m rv hf).bind fun H1 ⟨B1, l1, m1, r1, hi⟩ => .here ?_
            cases h
            have he := frz_at hf hm (by rw [hm1]; intro z; cases z)
            exact ⟨B1, l1, m1.retell ha he (by intro z; cases z) ⟨C, dx, vs, hc, hi _ _ _ _ hH, putFD_tell r1 (Paired.mapP pr fun _ _ z => ⟨z.1, z.2.mono l1⟩) hv⟩⟩
          · cases h
        · cases h
      · cases h
    · cases h
  · cases h
theorem frzFs_snd {K : PySem.W.Frag} {F : Hp} {ρ : List Addr} {n : Nat} {a : Addr} (ha : ρ[n]? = some a) : ∀ {fls : List Str} {B H : Hp} {M M' : Mem}, MR K F B ρ M H → frzFs n fls M = some M' → Lks (fun H' => ∃ B', Le B ρ B' ρ ∧ MR K F B' ρ M' H') H
  | [], B, H, M, M', m, h => by cases h; exact .here ⟨B, Le.refl _ _, m⟩
  | fl :: r, B, H, M, M', m, h => by
    unfold frzFs at h
    cases h1 : frzF M n fl with
    | none => rw [h1] at h; cases h
    | some M1 =>
      rw [h1] at h
      refine (frzF_snd m ha h1).bind fun H1 ⟨B1, l1, m1⟩ => ?_
      exact (frzFs_snd ha m1 h).bind fun H2 ⟨B2, l2, m2⟩ => .here ⟨B2, l1.trans l2, m2⟩
/-- a new instance, its fields and itself are frozen -/
def xFzI (fls : List Str) (f : XE) : XE := fun η M => (f η M).bind fun d M1 => match d with
  | .ptr n => match frzFs n fls M1 with
    | some M2 => match frz M2 (.ptr n) with
      | some (d', M3) => .ok d' M3
      | none => .no
    | none => .no
  | _ => .no
theorem de_fzI (h : DE X W e f) : DE X W e (xFzI fls f) := PE.imp (pe_locks h) fun σ H Q z => by
  obtain ⟨η, F, B, ρ, M, er, m, w⟩ := z
  refine ⟨η, F, B, ρ, M, er, m, w.bind fun d M1 B1 ρ1 H1 l1 m1 w1 v rv => ?_⟩
  split at w1
  · next n =>
    split at w1
    · next M2 h2 =>
      split at w1
      · next d' M3 h3 =>
        cases rv with
        | @ptr _ a ha =>
          refine (frzFs_snd ha m1 h2).bind fun H2 ⟨B2, l2, m2⟩ => ?_
          exact (frz_snd m2 (.ptr (l2.at ha)) h3).bind fun H3 ⟨B3, l3, m3, r3, _⟩ => .here (w1 _ _ _ (l2.trans l3) m3 _ r3)
      · exact w1.elim
    · exact w1.elim
  · exact w1.elim
end
end Dn

/-! DnDic: dicts read -/
namespace Dn
open PySem PyProof.Rows L2 Evl
def asDT (M : Mem) : D → Option (List (List L2.Key × D))
  | .dcT k => some k
  | .ptr n => match M[n]? with
    | some (.dT k) => some k
    | _ => none
  | _ => none
def asDK (M : Mem) : D → Option (List (L2.Key × D))
  | .dct k => some k
  | .ptr n => match M[n]? with
    | some (.dK k) => some k
    | _ => none
  | _ => none
section
variable {K : PySem.W.Frag} {F B H : Hp} {ρ : List Addr} {M : Mem}
theorem asDT_snd (m : MR K F B ρ M H) {d : D} {v : V} {kds : List (List L2.Key × D)} (r : Rp K B ρ d v) (h : asDT M d = some kds) : ∃ a kvs, v = .ref a ∧ Rd H a (.dT kvs) ∧ Paired (PrD K B ρ) kds kvs := by
  cases r with
  | @ptr n a ha =>
    unfold asDT at h
    dsimp only at h
    split at h
    · next k hm =>
      cases h
      obtain ⟨kvs, e, q, _⟩ := m.dictT ha hm
      exact ⟨a, kvs, rfl, .inl e, q⟩
    · cases h
  | dcT e q => cases h; exact ⟨_, _, rfl, .inr ⟨_, m.ex _ _ e⟩, q.prs⟩
  | _ => cases h
theorem MR.dictK (m : MR K F B ρ M H) {n : Nat} {a : Addr} {kds : List (L2.Key × D)} (ha : ρ[n]? = some a) (hm : M[n]? = some (.dK kds)) : ∃ kvs, H a = some (.dK kvs) ∧ Paired (PrD K B ρ) kds kvs ∧ B a = none := by
  obtain ⟨b, hb, hB, kvs, e, r⟩ := m.ob n _ hm
  rw [ha] at hb
  cases hb
  exact ⟨kvs, e, r.prs, hB (by intro z; cases z)⟩
theorem asDK_snd (m : MR K F B ρ M H) {d : D} {v : V} {kds : List (L2.Key × D)} (r : Rp K B ρ d v) (h : asDK M d = some kds) : ∃ a kvs, v = .ref a ∧ Rd H a (.dK kvs) ∧ Paired (PrD K B ρ) kds kvs := by
  cases r with
  | @ptr n a ha =>
    unfold asDK at h
    dsimp only at h
    split at h
    · next k hm =>
      cases h
      obtain ⟨kvs, e, q, _⟩ := m.dictK ha hm
      exact ⟨a, kvs, rfl, .inl e, q⟩
    · cases h
  | dct e q => cases h; exact ⟨_, _, rfl, .inr ⟨_, m.ex _ _ e⟩, q.prs⟩
  | _ => cases h
theorem asK1_snd {d : D} {v : V} {k : L2.Key} (r : Rp K B ρ d v) (h : asK1 d = some k) : v = kV k := by
  cases r <;> simp [asK1] at h <;> subst h <;> rfl
/-- what the dict has at a key -/
def dgetD (M : Mem) (x y : D) : Option (Option D) := match asDT M x with
  | some kds => (asKey y).map (valD kds)
  | none => match asDK M x with
    | some kds => (asK1 y).map (valD kds)
    | none => none
def OptR (K : PySem.W.Frag) (B : Hp) (ρ : List Addr) : Option D → Option V → Prop
  | some d, some v => Rp K B ρ d v
  | none, none => True
  | _, _ => False
theorem val_rel {κ : Type} [DecidableEq κ] {kds : List (κ × D)} {kvs : List (κ × V)} {k : κ} (p : Paired (PrD K B ρ) kds kvs) : OptR K B ρ (valD kds k) (valV kvs k) := by
  cases h : valD kds k with
  | some d =>
    obtain ⟨v, h1, h2⟩ := valD_snd p h
    rw [h1]
    exact h2
  | none =>
    rw [valD_none p h]
    trivial
theorem dgetD_snd (m : MR K F B ρ M H) {x y : D} {v u : V} {r : Option D} (rx : Rp K B ρ x v) (ry : Rp K B ρ y u) (h : dgetD M x y = some r) : ∃ a o, v = .ref a ∧ DGet H a u o ∧ OptR K B ρ r o ∧ IsD H a := by
  unfold dgetD at h
  split at h
  · next kds hd =>
    obtain ⟨a, kvs, rfl, e, q⟩ := asDT_snd m rx hd
    cases hk : asKey y with
    | none => simp [hk] at h
    | some k =>
      simp only [hk, Option.map_some] at h
      cases h
      obtain ⟨b, rfl, hb⟩ := asKey_snd m ry hk
      exact ⟨a, _, rfl, .inr ⟨kvs, k, b, e, rfl, hb, rfl⟩, val_rel q, .inr ⟨kvs, e⟩⟩
  · split at h
    · next kds hd =>
      obtain ⟨a, kvs, rfl, e, q⟩ := asDK_snd m rx hd
      cases hk : asK1 y with
      | none => simp [hk] at h
      | some k =>
        simp only [hk, Option.map_some] at h
        cases h
        exact ⟨a, _, rfl, .inl ⟨kvs, k, e, asK1_snd ry hk, rfl⟩, val_rel q, .inl ⟨kvs, e⟩⟩
    · cases h
theorem OptR.some {d : D} {o : Option V} (h : OptR K B ρ (some d) o) : ∃ v, o = some v ∧ Rp K B ρ d v := by
  cases o with
  | none => exact h.elim
  | some v => exact ⟨v, rfl, h⟩
theorem OptR.isSome {r : Option D} {o : Option V} (h : OptR K B ρ r o) : o.isSome = r.isSome := by
  cases r <;> cases o <;> first | rfl | exact h.elim
theorem OptR.getD {r : Option D} {o : Option V} {d : D} {v : V} (h : OptR K B ρ r o) (q : Rp K B ρ d v) : Rp K B ρ (r.getD d) (o.getD v) := by
  cases r <;> cases o <;> first | exact q | exact h | exact h.elim
end
theorem PE.or {X : Cx} {e : Expr} {t t' : TE} (h : PE X e t) (h' : PE X e t') : PE X e (fun σ H Q => t σ H Q ∨ t' σ H Q) := ⟨fun pins s σ H Q I q => q.elim (h.run pins s σ H Q I) (h'.run pins s σ H Q I)⟩
section
variable {X : Cx} {W : WX} {o i e value a b : Expr} {pos pos' apos cpos : Pos} {f g h : XE}
/-- x[y] of a list, a tuple, a text, a dict -/
def gd : Op2 := fun M x y => (dgetD M x y).bind id
def dIxA : Op2 := oOr dIx gd
theorem de_dgetA {k : Nat} (hr : Room k X.A) (ho : DE X W o f) (hi : DE X W i g) (hs : NoSl i) : DE X W (.Subscript o i pos) (xOp gd f g) :=
  PE.imp (pe_dget (by have := hr.un; omega) ho hi hs) fun σ H Q z => by
    obtain ⟨η, F, B, ρ, M, er, m, w⟩ := z
    refine ⟨η, F, B, ρ, M, er, m, w.bind fun dx M1 B1 ρ1 H1 l1 m1 w1 x rx => ?_⟩
    refine ⟨η, F, B1, ρ1, M1, er.mono l1, m1, w1.bind fun dy M2 B2 ρ2 H2 l2 m2 w2 y ry => ?_⟩
    obtain ⟨dz, hz, w3⟩ := w2.of
    unfold gd at hz
    cases hg : dgetD M2 dx dy with
    | none => simp [hg] at hz
    | some r =>
      simp only [hg, Option.bind_some, id] at hz
      subst hz
      obtain ⟨a, o, rfl, g, q, _⟩ := dgetD_snd m2 (rx.mono l2) ry hg
      obtain ⟨v, rfl, rv⟩ := q.some
      exact ⟨a, v, rfl, g, Wp.ret w3 m2 v rv⟩
/-- an operator that is one of two, by what the values are -/
theorem op_or {h h' : Op2} {e : Expr} (h1 : DE X W e (xOp h f g)) (h2 : DE X W e (xOp h' f g)) : DE X W e (xOp (oOr h h') f g) :=
  PE.imp (PE.or h1 h2) fun σ H Q z => by
    obtain ⟨η, F, B, ρ, M, er, m, w⟩ := z
    cases e1 : f η M with
    | no => simp only [xOp, e1, R.bind_no] at w; exact w.elim
    | ex x M1 =>
      refine .inl ⟨η, F, B, ρ, M, er, m, ?_⟩
      simp only [xOp, e1, R.bind_ex] at w ⊢
      exact w
    | ok x M1 =>
      cases e2 : g η M1 with
      | no => simp only [xOp, e1, e2, R.bind_no, R.bind_ok] at w; exact w.elim
      | ex y M2 =>
        refine .inl ⟨η, F, B, ρ, M, er, m, ?_⟩
        simp only [xOp, e1, e2, R.bind_ex, R.bind_ok] at w ⊢
        exact w
      | ok y M2 =>
        cases e3 : h M2 x y with
        | some z =>
          refine .inl ⟨η, F, B, ρ, M, er, m, ?_⟩
          simp only [xOp, e1, e2, R.bind_ok, oOr, e3] at w ⊢
          exact w
        | none =>
          refine .inr ⟨η, F, B, ρ, M, er, m, ?_⟩
          simp only [xOp, e1, e2, R.bind_ok, oOr, e3] at w ⊢
          exact w
theorem de_ixA {k : Nat} (hr : Room k X.A) (ha : DE X W a f) (hb : DE X W b g) (hs : PlainIx b := by intro _ _; rfl) (hn : NoSl b := by intro _ _; rfl) : DE X W (.Subscript a b pos) (xOp dIxA f g) := op_or (de_ix ha hb hs) (de_dgetA hr ha hb hn)
/-- y in d -/
def gdIn (neg : Bool) : Op2 := fun M y x => (dgetD M x y).map fun r => .bl (if neg then !r.isSome else r.isSome)
theorem od_gdIn {k : Nat} (hr : Room k X.A) : OpD X (compareOp .In) (gdIn false) := by
  refine ⟨fun y x H Q => ∃ a o, x = .ref a ∧ DGet H a y o ∧ Q (.bl o.isSome) H, fun pins s σ H y x v u Q I ry rx h => ?_, fun F B ρ M H y x dy dx dz Q m ry rx e k => ?_⟩
  · obtain ⟨a, o, rfl, g, q⟩ := h
    cases rx
    exact d_in (by have := hr.un; omega) I g ry fun s' I' => ⟨.bl o.isSome, H, I', rfl, q⟩
  · unfold gdIn at e
    cases hg : dgetD M dx dy with
    | none => simp [hg] at e
    | some r =>
      simp only [hg, Option.map_some] at e
      obtain rfl := Option.some.inj e
      obtain ⟨a, o, rfl, g, q, _⟩ := dgetD_snd m rx ry hg
      refine ⟨a, o, rfl, g, ?_⟩
      rw [q.isSome]
      exact k.same m (.bl _)
theorem od_gdNotIn {k : Nat} (hr : Room k X.A) : OpD X (compareOp .NotIn) (gdIn true) := by
  refine ⟨fun y x H Q => ∃ a o, x = .ref a ∧ DGet H a y o ∧ Q (.bl (!o.isSome)) H, fun pins s σ H y x v u Q I ry rx h => ?_, fun F B ρ M H y x dy dx dz Q m ry rx e k => ?_⟩
  · obtain ⟨a, o, rfl, g, q⟩ := h
    cases rx
    exact d_notIn (by have := hr.un; omega) I g ry fun s' I' => ⟨.bl (!o.isSome), H, I', rfl, q⟩
  · unfold gdIn at e
    cases hg : dgetD M dx dy with
    | none => simp [hg] at e
    | some r =>
      simp only [hg, Option.map_some] at e
      obtain rfl := Option.some.inj e
      obtain ⟨a, o, rfl, g, q, _⟩ := dgetD_snd m rx ry hg
      refine ⟨a, o, rfl, g, ?_⟩
      rw [q.isSome]
      exact k.same m (.bl _)
def dInA : Op2 := oOr dIn (gdIn false)
def dNotInA : Op2 := oOr dNotIn (gdIn true)
theorem od_inA {k : Nat} (hr : Room k X.A) : OpD X (compareOp .In) dInA := (od_in hr).or (od_gdIn hr)
theorem od_notInA {k : Nat} (hr : Room k X.A) : OpD X (compareOp .NotIn) dNotInA := (od_notIn hr).or (od_gdNotIn hr)
/-- d.get(y, z) -/
def isDct (M : Mem) (d : D) : Bool := (asDT M d).isSome || (asDK M d).isSome
theorem isDct_snd {K : PySem.W.Frag} {F B H : Hp} {ρ : List Addr} {M : Mem} (m : MR K F B ρ M H) {d : D} {v : V} (r : Rp K B ρ d v) (h : isDct M d = true) : ∃ a, v = .ref a ∧ IsD H a := by
  unfold isDct at h
  cases h1 : asDT M d with
  | some k => obtain ⟨a, kvs, rfl, e, _⟩ := asDT_snd m r h1; exact ⟨a, rfl, .inr ⟨kvs, e⟩⟩
  | none =>
    cases h2 : asDK M d with
    | some k => obtain ⟨a, kvs, rfl, e, _⟩ := asDK_snd m r h2; exact ⟨a, rfl, .inl ⟨kvs, e⟩⟩
    | none => simp [h1, h2] at h
def xDGet2 (f g h : XE) : XE := fun η M => (f η M).bind fun x M1 => if isDct M1 x = true then (g η M1).bind fun y M2 => (h η M2).bind fun z M3 => R.of ((dgetD M3 x y).map fun r => r.getD z) M3 else .no
theorem de_dget2 {k : Nat} {c : Expr} (hr : Room k X.A) (ho : DE X W o f) (he : DE X W e g) (hc : DE X W c h) (hb : attributeBase o "get" X.env (eval o X.env) = eval o X.env := by rfl)
    (hf : ((backTo cpos (starEach [e, c] X.env)).all (fun x => !x.1) && (backToKw cpos (keywordEach [] X.env)).all (fun x => x.1.isSome) && decide (([e, c] : List Expr).length + ([] : List Keyword).length + (if ([] : List Keyword).isEmpty then 0 else 1) < 30)) = true := by rfl)
    (hl : (apos.endLine == cpos.line) = true := by rfl) (ht : backTo cpos (starEach [e, c] X.env) = [(false, eval e X.env), (false, eval c X.env)] := by rfl) : DE X W (.Call (.Attribute o "get" apos) [e, c] [] cpos) (xDGet2 f g h) :=
  PE.imp (pe_dget2 (by have := hr.un; omega) ho he hc ⟨hb, hf, hl, ht⟩) fun σ H Q z => by
    obtain ⟨η, F, B, ρ, M, er, m, w⟩ := z
    refine ⟨η, F, B, ρ, M, er, m, w.bind fun dx M1 B1 ρ1 H1 l1 m1 w1 x rx => ?_⟩
    split at w1
    · next hd =>
      obtain ⟨a, rfl, hD⟩ := isDct_snd m1 rx hd
      refine ⟨a, rfl, hD, η, F, B1, ρ1, M1, er.mono l1, m1, w1.bind fun dy M2 B2 ρ2 H2 l2 m2 w2 y ry => ?_⟩
      refine ⟨η, F, B2, ρ2, M2, er.mono (l1.trans l2), m2, w2.bind fun dz M3 B3 ρ3 H3 l3 m3 w3 z rz => ?_⟩
      obtain ⟨dw, hw, w4⟩ := w3.of
      cases hg : dgetD M3 dx dy with
      | none => simp [hg] at hw
      | some r =>
        simp only [hg, Option.map_some] at hw
        obtain rfl := Option.some.inj hw
        obtain ⟨a', o', ea, g', q, _⟩ := dgetD_snd m3 (rx.mono (l2.trans l3)) (ry.mono l3) hg
        cases ea
        exact ⟨o', g', Wp.ret w4 m3 _ (q.getD rz)⟩
    · exact w1.elim
end
end Dn

/-! DnIt: walks over dicts; dicts made by comprehensions, and of pairs -/
namespace Dn
open PySem PyProof.Rows L2 Evl PySem.Spec
/-! ### the pairs of a locked dict by tuples -/
/-- at i: the key's own tuple, the value, in a new tuple -/
def Itit (d : Addr) (o : Obj) (kvs : List (List L2.Key × V)) : It where
  go := fun i H => H d = some (.frz o (.dT kvs)) ∧ i < kvs.length
  yld := fun i H x H' => ∃ (T q : Addr) (k : List L2.Key) (v : V), kvs[i]? = some (k, v) ∧ x = .ref T ∧ H T = none ∧ H q = some (.tup (k.map kV)) ∧ H' = upd H T (.tup [.ref q, v])
  stop := fun i H => H d = some (.frz o (.dT kvs)) ∧ kvs.length ≤ i
theorem frzT2 {X : Cx} {pins : List (Addr × Obj)} {σ : L2.St} {H : Hp} {s : Shared} {d : Addr} {o : Obj} {kvs : List (List L2.Key × V)} (I : Inv X pins σ H s) (hd : H d = some (.frz o (.dT kvs))) :
    (d == sysModules) = false ∧ ∃ (es : Array DictEntry) (ep : Nat), o.data = .dict es ep ∧ DT.Raw s.heap d es ep ∧ es.size = kvs.length ∧
      ∀ (i : Nat) (k : List L2.Key) (v : V), kvs[i]? = some (k, v) → ∃ (en : DictEntry) (q : Addr), es[i]? = some en ∧ en.key = .ref q ∧ H q = some (.tup (k.map kV)) ∧ RelV v en.val := by
  obtain ⟨g0, _, g1, xs, pr, o', es, ep, g2, g3, g4, g5, _⟩ := I.hok d _ hd
  rw [g0] at g2
  cases g2
  refine ⟨g1, es, ep, g4, ⟨o, g0, g3, g4⟩, ?_, fun i k v e => ?_⟩
  · rw [size_of_entries g5, ← Paired.length pr]
  · obtain ⟨b, hb, q1, q2, q3⟩ := paired_get pr e
    have q := entry_at g5 i
    rw [hb] at q
    exact ⟨_, b.2.1, q, rfl, q2, q3⟩
theorem turn_itemsT {P : Program} {w : World} {K : PySem.W.Frag} {d : Addr} {o : Obj} {es : Array DictEntry} {ep : Nat} {kvs : List (List L2.Key × V)} {elts : List Expr} {kk : Nat} {tpos : Pos} (it : Addr) (hod : o.data = .dict es ep) :
    Turn P w K (.Tuple elts kk tpos) (Itit d o kvs) [it] it (fun i h => ∃ ok ov, IsItemIter h it d i kvs.length ep ok ov) := by
  refine ⟨by simp, fun i h st b hb => ?_, fun i h h' st k => ?_, ?_, ?_, fun A i s Q E st q => ?_⟩
  · obtain rfl : b = it := by simpa using hb
    exact let ⟨_, _, e⟩ := st; ⟨_, e, fun v z => nomatch z⟩
  · exact let ⟨ok, ov, e⟩ := st; ⟨ok, ov, k it (by simp) _ e⟩
  · intro X hP hw hK hc i pins s σ H E I hf st hg
    subst hP hw hK
    obtain ⟨_, es2, ep2, c1, c2, c3, c4⟩ := frzT2 I hg.1
    obtain ⟨rfl, rfl⟩ := dict_ep hod c1
    have hi0 : i < kvs.length := hg.2
    obtain ⟨kv, hkv⟩ : ∃ p, kvs[i]? = some p := ⟨_, List.getElem?_eq_getElem hi0⟩
    obtain ⟨en, q, e1, e2, e3, e4⟩ := c4 i kv.1 kv.2 hkv
    obtain ⟨ok, ov, he⟩ := st
    rw [← c3] at he
    have hlt : it < s.heap.objs.size := Heap.lt_size he
    have hi : i < es2.size := by rw [c3]; exact hg.2
    have een : es2[i] = en := by
      rw [Array.getElem?_eq_getElem hi] at e1
      exact Option.some.inj e1
    refine DT.nextI he c2 hi fun h1 g1 g2 g3 g4 => ⟨_, rfl, wpAny_letOwnedTupleGo_items (s := { s with heap := h1 }) g1 fun h2 g5 sb => ?_⟩
    rw [een, e2] at g2
    have gT : h2.get? s.heap.objs.size = some { cls := .type "tuple", data := .seq #[.ref q, en.val] } := (sb.2 _ (Nat.ne_of_gt hlt)).trans g2
    have nw : ObjOk X.prog X.w (upd H s.heap.objs.size (.tup [.ref q, kv.2])) h2 s.heap.objs.size (.tup [.ref q, kv.2]) :=
      ⟨by show 2 ≤ sizeLine; decide, [.ref q, en.val], .cons rfl (.cons e4 .nil), ⟨_, gT, rfl, _, rfl⟩⟩
    have J : Inv X pins σ (upd H s.heap.objs.size (.tup [.ref q, kv.2])) { s with heap := h2 } :=
      I.turnedNew (t' := s.toks) (ch := [it]) (fun b ob hb z => (sb.2 b (by simpa using hb)).trans (g4 b ob (by simpa using hb) z)) hf (Nat.le_refl _) nw
    refine ⟨.ref s.heap.objs.size, _, J, rfl, ⟨_, q, kv.1, kv.2, hkv, rfl, I.hok.fresh (Nat.le_refl _), e3, rfl⟩, ⟨_, _, by rw [← c3]; exact g5⟩, fun b hb => ?_⟩
    obtain rfl : b = it := by simpa using hb
    rw [upd_ne (Nat.ne_of_lt hlt)]
    exact (hf b (by simp)).1
  · intro X hP hw hK hc i pins s σ H E I hf st hg
    subst hP hw hK
    obtain ⟨_, es2, ep2, c1, c2, c3, c4⟩ := frzT2 I hg.1
    obtain ⟨rfl, rfl⟩ := dict_ep hod c1
    obtain ⟨ok, ov, he⟩ := st
    rw [← c3] at he
    obtain ⟨f0, f1, f2, f3, f4, f5⟩ := hf it (by simp)
    exact DT.endI (I.ok.hd hc) he c2 (by rw [c3]; exact hg.2) fun h1 eb => ⟨rfl, I.turned (t' := s.toks) (fun b ob hb z => eb b ob hb z) f0 f1 f3 f4 f5⟩
  · exact let ⟨_, _, e⟩ := st; PySem.W.kcp_self e q
def iItemsT (td : TE) : TI := fun σ H R => td σ H fun x H1 => ∃ d o kvs, x = .ref d ∧ H1 d = some (.frz o (.dT kvs)) ∧ R (Itit d o kvs) H1
theorem pi_itemsT {X : Cx} {e : Expr} {td : TE} {apos cpos : Pos} {elts : List Expr} {kk : Nat} {tpos : Pos} (he : PE X e td) (hbase : attributeBase e "items" X.env (eval e X.env) = eval e X.env) (hline : (apos.endLine == cpos.line) = true) :
    PI X (.Tuple elts kk tpos) (.Call (.Attribute e "items" apos) [] [] cpos) (iItemsT td) := ⟨fun pins s σ H R I h => by
  refine wpAny_Call_method (T := "dict") (id := "dict.items") hbase rfl hline F.plainAttrs_dict F.slot_dict_items F.type_dict_items (thn (he.run pins s σ H _ I h) ?_)
  rintro u s1 ⟨x, H1, J, rx, d, o, kvs, rfl, hd, q⟩
  cases rx
  obtain ⟨c0, es, ep, c1, c2, c3, _⟩ := frzT2 J hd
  obtain ⟨od, g0, g1, g2⟩ := id c2
  refine ⟨c2.typeIs, fun b z => by cases z; exact ⟨od, g0, g1.2.1⟩, ?_⟩
  have J2 : Inv X pins σ H1 { s1 with heap := s1.heap.push { cls := .type "dict_items", data := .fields #[.ref d] } } := J.kept (t' := s1.toks) fun b ob z => Heap.get?_push_of_some _ z
  show wpAny _ _ (callWith cpos (.builtin "dict.items") [.ref d] [] []) _ _ s1
  refine method_meetsIn F.slot_dict_items F.entry_dict_items rfl (PySem.evalArgs_none ⟨rfl, c2.typeIs, F.args_dict_items_1 _, _, DT.meetsItems (es := es) (ep := ep) c0, c2, ?_⟩)
  refine DT.iterI (d := d) ⟨_, Heap.get?_push_size _ rfl, rfl, rfl⟩ (c2.push _) (pi_one (tk := s1.toks) J2 _ (turn_itemsT _ c1) ⟨.none, .none, ?_⟩ q)
  rw [← c3]
  exact Heap.get?_push_size _ rfl⟩
/-- a key as data -/
def k1D : L2.Key → D
  | .inl i => .int i
  | .inr s => .str s
theorem k1D_rp {K : PySem.W.Frag} {B : Hp} {ρ : List Addr} (k : L2.Key) : Rp K B ρ (k1D k) (kV k) := by
  cases k with
  | inl i => exact .int i
  | inr s => exact .str s
theorem ksD_rp {K : PySem.W.Frag} {B : Hp} {ρ : List Addr} : ∀ (ks : List L2.Key), Rps K B ρ (ks.map k1D) (ks.map kV)
  | [] => .nil
  | k :: r => .cons (k1D_rp k) (ksD_rp r)
def itemsT (kds : List (List L2.Key × D)) : List D := kds.map fun p => .tup [.tup (p.1.map k1D), p.2]
def itemsK (kds : List (L2.Key × D)) : List D := kds.map fun p => .tup [k1D p.1, p.2]
theorem walk_itT {K : PySem.W.Frag} {B : Hp} {ρ : List Addr} {d : Addr} {o : Obj} {kvs : List (List L2.Key × V)} {kds : List (List L2.Key × D)} (hB : B d = some (.frz o (.dT kvs))) (r : Paired (PrD K B ρ) kds kvs) : WalkD K (Itit d o kvs) B ρ (itemsT kds) := by
  have hl := pr_len r
  refine ⟨⟨fun H => H d = some (.frz o (.dT kvs)), fun i H x H' => (Itit d o kvs).yld i H x H', ⟨fun i H hi q => ⟨q, by simpa [itemsT, hl] using hi⟩, fun H q => ⟨q, by simp [itemsT, hl]⟩, fun _ _ _ _ _ _ y => y⟩, fun H hH => hH _ _ hB, ?_⟩⟩
  intro i c hc F B1 ρ1 M H x H2 l m y
  obtain ⟨T, q, k, v, h1, rfl, h2, h3, rfl⟩ := y
  unfold itemsT at hc
  rw [List.getElem?_map] at hc
  cases hk : kds[i]? with
  | none => rw [hk] at hc; cases hc
  | some kd =>
    rw [hk] at hc
    simp only [Option.map_some, Option.some.injEq] at hc
    subst hc
    obtain ⟨kv, e1, e2⟩ := paired_get r hk
    rw [h1] at e1
    cases e1
    obtain ⟨B2, l2, m2, hq⟩ := m.know h3
    obtain ⟨m3, l3⟩ := m2.new (o := .tup [.ref q, v]) h2
    have e0 : kd.1 = k := e2.1
    refine ⟨_, l2.trans l3, m3, .tup (st_of upd_same) (.cons ?_ (.cons (((e2.2.mono l).mono l2).mono l3) .nil)) (.inr upd_same), Ex.new h2⟩
    have hq' := l3.1 _ _ hq
    rw [e0]
    exact .tup (st_of hq') (ksD_rp _) (.inr hq')
theorem walk_itK {K : PySem.W.Frag} {B : Hp} {ρ : List Addr} {d : Addr} {o : Obj} {kvs : List (L2.Key × V)} {kds : List (L2.Key × D)} (hB : B d = some (.frz o (.dK kvs))) (r : Paired (PrD K B ρ) kds kvs) : WalkD K (Iti d o kvs) B ρ (itemsK kds) := by
  have hl := pr_len r
  refine ⟨⟨fun H => H d = some (.frz o (.dK kvs)), fun i H x H' => (Iti d o kvs).yld i H x H', ⟨fun i H hi q => ⟨q, by simpa [itemsK, hl] using hi⟩, fun H q => ⟨q, by simp [itemsK, hl]⟩, fun _ _ _ _ _ _ y => y⟩, fun H hH => hH _ _ hB, ?_⟩⟩
  intro i c hc F B1 ρ1 M H x H2 l m y
  obtain ⟨T, k, v, h1, rfl, h2, rfl⟩ := y
  unfold itemsK at hc
  rw [List.getElem?_map] at hc
  cases hk : kds[i]? with
  | none => rw [hk] at hc; cases hc
  | some kd =>
    rw [hk] at hc
    simp only [Option.map_some, Option.some.injEq] at hc
    subst hc
    obtain ⟨kv, e1, e2⟩ := paired_get r hk
    rw [h1] at e1
    cases e1
    obtain ⟨m3, l3⟩ := m.new (o := .tup [kV k, v]) h2
    have e0 : kd.1 = k := e2.1
    rw [e0]
    exact ⟨_, l3, m3, .tup (st_of upd_same) (.cons (k1D_rp k) (.cons ((e2.2.mono l).mono l3) .nil)) (.inr upd_same), Ex.new h2⟩
def itsD : D → Option (List D)
  | .dcT kds => some (itemsT kds)
  | .dct kds => some (itemsK kds)
  | _ => none
section
variable {X : Cx} {W : WX} {e tg it : Expr} {f : XE} {apos cpos : Pos}
/-- d.items() -/
def xIts (f : XE) : XI := fun η M => (f η M).bind fun d M1 => R.of (itsD d) M1
theorem di_items {elts : List Expr} {kk : Nat} {tpos : Pos} (he : DE X W e f) (hb : attributeBase e "items" X.env (eval e X.env) = eval e X.env := by rfl) (hl : (apos.endLine == cpos.line) = true := by rfl) :
    DI X W (.Tuple elts kk tpos) (.Call (.Attribute e "items" apos) [] [] cpos) (xIts f) :=
  PI.imp (PI.or (pi_itemsT he hb hl) (pi_items he hb hl)) fun σ H Q z => by
    obtain ⟨η, F, B, ρ, M, er, m, w⟩ := z
    unfold xIts at w
    cases hr : f η M with
    | no => rw [hr] at w; exact w.elim
    | ex e1 M1 =>
      rw [hr] at w
      refine .inl ⟨η, F, B, ρ, M, er, m, ?_⟩
      rw [hr]
      exact w
    | ok d M1 =>
      rw [hr] at w
      have w : Wp X.K X.mg F B ρ (wAt W σ) _ (R.of (itsD d) M1) := w
      obtain ⟨ds, hd, w1⟩ := w.of
      cases d with
      | dcT kds =>
        cases hd
        refine .inl ⟨η, F, B, ρ, M, er, m, ?_⟩
        rw [hr]
        intro B' ρ' H' l m' v rv
        cases rv with
        | dcT e1 r1 => exact ⟨_, _, _, rfl, m'.ex _ _ e1, w1 B' ρ' H' l m' _ (walk_itT e1 r1.prs)⟩
      | dct kds =>
        cases hd
        refine .inr ⟨η, F, B, ρ, M, er, m, ?_⟩
        rw [hr]
        intro B' ρ' H' l m' v rv
        cases rv with
        | dct e1 r1 => exact ⟨_, _, _, rfl, m'.ex _ _ e1, w1 B' ρ' H' l m' _ (walk_itK e1 r1.prs)⟩
      | _ => cases hd
end
end Dn

/-! DnDc: dicts by tuples made by a comprehension -/
namespace Dn
open PySem PyProof.Rows L2 Evl PySem.Spec
theorem dictSetT {X : Cx} {pins : List (Addr × Obj)} {σ : L2.St} {H : Hp} {s : Shared} {E : Value → Shared → Prop} {D b : Addr} {kvs : List (List L2.Key × V)} {k : List L2.Key} {v : V} {r : Value} {Q : Unit → Shared → Prop} (hu : X.A.units < cLine) (I : Inv X pins σ H s) (hD : H D = some (.dT kvs)) (hz : kvs.length < sizeLine)
    (eb : H b = some (.tup (k.map kV))) (rv : RelV v r) (h : ∀ s', Inv X pins σ (upd H D (.dT (putK kvs k v))) s' → Q () s') : wpAny (model X.prog X.w) X.A (dictSet D (.ref b) r) Q E s := by
  obtain ⟨z, hd, xs, rel, dd⟩ := dt_of I.hok hD
  have z1 : xs.length ≤ sizeLine := Paired.length rel ▸ z
  refine wpAny_dictSet_heap (knd := tupleKind (mixKind X.prog X.w)) (hsz := z1) hu (key_of I.hok eb) dd fun h' dd' sb => h _ ?_
  obtain ⟨q, es, ep, q1, q2, q3, q4, _, q5⟩ := dd'
  refine d_write I (by rw [hD]; trivial) sb ⟨q, q1⟩ ⟨by have := length_putK kvs k v; omega, hd, _, (rel.put k eb rv).keeps fun c ys ec => ?_, q, es, ep, q1, q2, q3, q4, q5⟩
  rw [upd_ne (ne_of ec hD (by intro z; cases z))]
  exact ec
/-- {k: v for .. in .. if ..}, the keys tuples -/
def tDcT (wi : TI) (g : TG) (tt : TT) (tk tv : TE) (vs : List Nat) : TE := fun σ H Q => wi σ H fun J H1 => ∀ D, H1 D = none → ∃ W : Nat → Nat → Hp → Prop, (∃ m, W 0 m (upd H1 D (.dT []))) ∧ ∀ i m H, W i m H →
  (J.stop i H ∧ Q (.ref D) H) ∨ (J.go i H ∧ ∃ Nx : Hp → Prop, (∀ H', Nx H' → ∃ m', m' < m ∧ W (i + 1) m' H') ∧ ∀ x H', J.yld i H x H' → g x (L2.wipe σ vs) H' fun σ2 H2 => L2.wipe σ2 vs = L2.wipe σ vs ∧ tt σ2 H2 fun b H3 =>
    if b = true then tk σ2 H3 fun y H4 => tv σ2 H4 fun z H5 => ∃ (kvs : List (List L2.Key × V)) (k : List L2.Key) (c : Addr), y = .ref c ∧ H5 c = some (.tup (k.map kV)) ∧ H5 D = some (.dT kvs) ∧ kvs.length < sizeLine ∧ Nx (upd H5 D (.dT (putK kvs k z))) else Nx H3)
section
variable {X : Cx} {kx vx tg iter : Expr} {ifs : List Expr} {scope : Scope} {own : List (Str × Nat)} {pos pos' : Pos} {wi : TI} {g : TG} {tt : TT} {tk tv : TE}
theorem dcT_run {pins : List (Addr × Obj)} {s : Shared} {σ : L2.St} {H : Hp} {Q : VK} (hu : X.A.units < cLine) (hc : X.calm = true) (hN : X.N.Nodup) (I : Inv X pins σ H s) (hi : PI X tg iter wi) (ok : BlkOk X.N X.env.scope scope own)
    (hg : ∀ (s : Shared) (H : Hp) (C : Addr) (cl : List (Str × Addr)) (fp : List Addr), PG (X.blk s H scope (compEnvC scope cl C X.env) fp) tg g) (ht : ∀ (s : Shared) (H : Hp) (C : Addr) (cl : List (Str × Addr)) (fp : List Addr), PTs (X.blk s H scope (compEnvC scope cl C X.env) fp) ifs tt)
    (hk : ∀ (s : Shared) (H : Hp) (C : Addr) (cl : List (Str × Addr)) (fp : List Addr), PE (X.blk s H scope (compEnvC scope cl C X.env) fp) kx tk) (hv : ∀ (s : Shared) (H : Hp) (C : Addr) (cl : List (Str × Addr)) (fp : List Addr), PE (X.blk s H scope (compEnvC scope cl C X.env) fp) vx tv)
    (hs : ∀ x, foldedSetIterable iter X.env x = pure x) (h : tDcT wi g tt tk tv (own.map (·.2)) σ H Q) : wpAny (model X.prog X.w) X.A (comprehension (.DictComp kx vx [⟨tg, iter, ifs, 0⟩] scope pos) scope X.env pos' newDict false (eval iter X.env) none) (EP X pins σ Q) X.xe s := by
  have free : ∀ y ∈ scope.names, y.2 = .free → ∃ c, X.env.cells.lookup y.1 = some c := fun y hy e => (ok.free y hy e).elim (fun k => I.ok.has _ (.inl k)) fun k => I.ok.has _ (.inr k)
  refine wpAny_comprehension_free (use := none) rfl hs (closure_ok free) ok.kind (fun y hy e => by rw [ok.uniq y hy, e]) (thn (hi.run pins s σ H _ I h) fun xv s1 hx => thn hx fun itv s2 h2 => ?_)
  obtain ⟨it, fp, tn, J, H2, rfl, I2, T, st2, f2, q⟩ := h2
  refine wpAny_newObj_type (newEnv_comp ?_)
  generalize eD : s2.heap.objs.size = D
  have nD : H2 D = none := I2.hok.fresh (Nat.le_of_eq eD)
  obtain ⟨W, ⟨m0, w0⟩, turn⟩ := q D nD
  generalize e3 : ({ s2 with heap := s2.heap.push { cls := .type "dict", data := .dict #[] } } : Shared) = s3
  have I3 : Inv X pins σ (upd H2 D (.dT [])) s3 := by
    subst e3 eD
    exact I2.laid (t' := s2.toks) (fun b o e => Heap.get?_push_of_some _ e) (Nat.le_refl _) (dt_empty s2.heap I2.big)
  have h3 : s3.heap = s2.heap.push { cls := .type "dict", data := .dict #[] } := by rw [← e3]
  have f3 : ∀ b ∈ fp, FpOk X pins (upd H2 D (.dT [])) b ∧ b < s3.heap.objs.size := fun b hb => by
    obtain ⟨o, e, _⟩ := T.obj _ _ st2 b hb
    have hlt := Heap.lt_size e
    refine ⟨⟨?_, (f2 b hb).2⟩, by rw [h3, Heap.size_push]; exact Nat.lt_succ_of_lt hlt⟩
    rw [upd_ne (by rw [← eD]; exact Nat.ne_of_lt hlt)]
    exact (f2 b hb).1
  have st3 : tn 0 s3.heap := T.keep _ _ _ st2 fun b _ o e => by rw [h3]; exact Heap.get?_push_of_some _ e
  have I4 := block_start I3 ok hN f3
  generalize eCl : cellsFrom (s3.heap.objs.size + 1) scope.names (cloFrom X.env.cells scope.names []) = cl at I4
  have pg := hg s3 (upd H2 D (.dT [])) s3.heap.objs.size cl fp
  have pt := ht s3 (upd H2 D (.dT [])) s3.heap.objs.size cl fp
  have pk := hk s3 (upd H2 D (.dT [])) s3.heap.objs.size cl fp
  have pv := hv s3 (upd H2 D (.dT [])) s3.heap.objs.size cl fp
  show codeAny _ _ (.compStart (.DictComp kx vx [⟨tg, iter, ifs, 0⟩] scope pos) 0 (.ref it) (.ref D) (compEnvC scope cl s3.heap.objs.size X.env)) (compPost (model X.prog X.w) X.A X.xe none (EP X pins σ Q) (.ref D) s3.heap.objs.size) { s3 with heap := pushCells (s3.heap.push { cls := .type "dict", data := .dict #[] }) scope.names }
  have nfp : ∀ b ∈ fp, (upd H2 D (.dT [])) b = none := fun b hb => (f3 b hb).1.1
  have cL : (compEnvC scope cl s3.heap.objs.size X.env).locals = s3.heap.objs.size := rfl
  generalize compEnvC scope cl s3.heap.objs.size X.env = ce at I4 pg pt pk pv cL ⊢
  generalize upd H2 D (.dT []) = H3 at I3 I4 pg pt pk pv w0 nfp f3
  generalize e4 : ({ s3 with heap := pushCells (s3.heap.push { cls := .type "dict", data := .dict #[] }) scope.names } : Shared) = s4 at I4 ⊢
  have st4 : tn 0 s4.heap := T.keep _ _ _ st3 fun b _ o e => by rw [← e4]; exact pushCells_keeps _ _ _ _ (Heap.get?_push_of_some _ e)
  have stat : ∀ {τ : L2.St} {G : Hp} {r : Shared}, Inv (X.blk s3 H3 scope ce fp) [] τ G r → (∀ b ∈ fp, G b = none) → ∀ b ∈ fp, FpOk (X.blk s3 H3 scope ce fp) [] G b := fun J' hn b hb =>
    ⟨hn b hb, (J'.ok.exf b hb).1, J'.ok.exfs b hb, .inl hb, fun x c e => (J'.ok.exf b hb).2 x c e, fun p hp => absurd (show p ∈ ([] : List (Addr × Obj)) ++ [] from hp) (by simp)⟩
  have loop : codeAny (model X.prog X.w) X.A (.compLoop (.DictComp kx vx [⟨tg, iter, ifs, 0⟩] scope pos) 0 (.ref it) (.ref D) ce) (compPost (model X.prog X.w) X.A X.xe none (EP X pins σ Q) (.ref D) s3.heap.objs.size) s4 := by
    refine compLoop_anyD (fun n r => ∃ i G, Inv (X.blk s3 H3 scope ce fp) [] (L2.wipe σ (own.map (·.2))) G r ∧ tn i r.heap ∧ (∀ b ∈ fp, G b = none) ∧ W i n G) ?_ m0 ⟨0, H3, I4, st4, nfp, w0⟩
    rintro n s5 ⟨i, H5, I5, st5, n5, w5⟩
    rcases turn i n H5 w5 with ⟨stop, qq⟩ | ⟨go, Nx, hNx, step⟩
    · refine thnF (T.done (X.blk s3 H3 scope ce fp) rfl rfl rfl hc i [] s5 _ H5 (fun _ _ => False) I5 (stat I5 n5) st5 stop) ?_
      rintro r s6 ⟨rfl, I6⟩
      have I7 : Inv X pins σ H5 s6 := I3.call' (ch := fp) I6.os I6.base I6.hok I6.bare fun b hb => let z := (f3 b hb).1; ⟨z.2.2.2.1, z.2.1, z.2.2.2.2.1, z.2.2.2.2.2⟩
      have nC : H5 s3.heap.objs.size = none := by rw [← cL]; exact I6.free
      obtain ⟨m, hn, _⟩ := I6.loc
      have hn : s6.heap.Ns ce.locals m := hn
      rw [cL] at hn
      obtain ⟨g0, g1, g2, g3, g4, g5⟩ := I3.fpOk (Nat.le_refl _) nC
      exact ⟨m, hn, fun h'' sb => ⟨.ref D, H5, I7.turned (t' := s6.toks) (fun b o hb e => (sb.2 b hb).trans e) g0 g1 g3 g4 g5, rfl, qq⟩⟩
    · refine thnF (T.item (X.blk s3 H3 scope ce fp) rfl rfl rfl hc i [] s5 _ H5 (fun _ _ => False) I5 (stat I5 n5) st5 go) ?_
      rintro r s6 ⟨u, rfl, h6⟩
      refine thnF h6 fun _ s7 ⟨x, H7, I7, r7, y7, st7, n7⟩ => ?_
      refine thnF (pg.run _ s7 _ H7 x u _ (I7.pinned (stat I7 n7) (T.obj _ _ st7)) r7 (step x H7 y7)) fun _ s8 ⟨σ8, H8, I8, hw8, q8⟩ => thnF (pt.run _ s8 σ8 H8 _ I8 q8) fun b s9 ⟨H9, I9, q9⟩ => ?_
      have fin : ∀ {r : Shared} {G : Hp}, Inv (X.blk s3 H3 scope ce fp) ([] ++ pinsAt fp s7.heap) σ8 G r → Nx G → ∃ m, m < n ∧ ∃ i G, Inv (X.blk s3 H3 scope ce fp) [] (L2.wipe σ (own.map (·.2))) G r ∧ tn i r.heap ∧ (∀ b ∈ fp, G b = none) ∧ W i m G := fun {r G} J' nx => by
        obtain ⟨m', hm, w'⟩ := hNx G nx
        have pin : ∀ b ∈ fp, ∀ o, s7.heap.get? b = some o → r.heap.get? b = some o ∧ G b = none := fun b hb o e => let z := J'.pin (b, o) (List.mem_append_right _ (List.mem_append_right _ (mem_pinsAt hb e))); ⟨z.1, z.2.1⟩
        refine ⟨m', hm, i + 1, G, (J'.unpinned (pins := [])).weak (by rw [← hw8, L2.wipe_length]) (fun j v e => ?_), T.keep _ _ _ st7 fun b hb o e => (pin b hb o e).1, fun b hb => ?_, w'⟩
        · rw [← hw8] at e
          exact (wipe_some e).1
        · obtain ⟨o, e, _⟩ := T.obj _ _ st7 b hb
          exact (pin b hb o e).2
      cases b with
      | false => exact fin I9 q9
      | true =>
        refine thnF (pk.run _ s9 σ8 H9 _ I9 q9) fun z sA ⟨yk, HA, IA, rA, qA⟩ => thnF (pv.run _ sA σ8 HA _ IA qA) ?_
        rintro z2 sB ⟨yv, HB, IB, rB, kvs, k, c, rfl, hcB, hDB, hzB, nx⟩
        cases rA
        exact dictSetT (X := X.blk s3 H3 scope ce fp) hu IB hDB hzB hcB rB fun sC IC => fin IC nx
  exact codeAny_compStart_dict loop (T.self X.A 0 _ _ _ st4 loop)
theorem pe_dcT (hu : X.A.units < cLine) (hc : X.calm = true) (hN : X.N.Nodup) (hi : PI X tg iter wi) (ok : BlkOk X.N X.env.scope scope own)
    (hg : ∀ (s : Shared) (H : Hp) (C : Addr) (cl : List (Str × Addr)) (fp : List Addr), PG (X.blk s H scope (compEnvC scope cl C X.env) fp) tg g) (ht : ∀ (s : Shared) (H : Hp) (C : Addr) (cl : List (Str × Addr)) (fp : List Addr), PTs (X.blk s H scope (compEnvC scope cl C X.env) fp) ifs tt)
    (hk : ∀ (s : Shared) (H : Hp) (C : Addr) (cl : List (Str × Addr)) (fp : List Addr), PE (X.blk s H scope (compEnvC scope cl C X.env) fp) kx tk) (hv : ∀ (s : Shared) (H : Hp) (C : Addr) (cl : List (Str × Addr)) (fp : List Addr), PE (X.blk s H scope (compEnvC scope cl C X.env) fp) vx tv)
    (hs : ∀ x, foldedSetIterable iter X.env x = pure x) : PE X (.DictComp kx vx [⟨tg, iter, ifs, 0⟩] scope pos) (tDcT wi g tt tk tv (own.map (·.2))) := ⟨fun pins s σ H Q I h => by
  rw [arm_eval_DictComp]
  exact dcT_run hu hc hN I hi ok hg ht hk hv hs h⟩
end
/-- over a walk -/
theorem dcT_it {J : It} {n : Nat} {G : Hp → Prop} {Y : Nat → Hp → V → Hp → Prop} (w : Walk J n G Y) {g : TG} {tt : TT} {tk tv : TE} {vs : List Nat} {σ : L2.St} {H1 : Hp} {D : Addr} {Qd : Hp → Prop} (Pv : Nat → Hp → Prop) (h0 : Pv 0 (upd H1 D (.dT []))) (hG : ∀ i H, i ≤ n → Pv i H → G H)
    (hs : ∀ i x H H', i < n → Pv i H → Y i H x H' → g x (L2.wipe σ vs) H' fun σ2 H2 => L2.wipe σ2 vs = L2.wipe σ vs ∧ tt σ2 H2 fun b H3 =>
      if b = true then tk σ2 H3 fun y H4 => tv σ2 H4 fun z H5 => ∃ (kvs : List (List L2.Key × V)) (k : List L2.Key) (c : Addr), y = .ref c ∧ H5 c = some (.tup (k.map kV)) ∧ H5 D = some (.dT kvs) ∧ kvs.length < sizeLine ∧ Pv (i + 1) (upd H5 D (.dT (putK kvs k z))) else Pv (i + 1) H3) (hd : ∀ H, Pv n H → Qd H) :
    ∃ W : Nat → Nat → Hp → Prop, (∃ m, W 0 m (upd H1 D (.dT []))) ∧ ∀ i m H, W i m H → (J.stop i H ∧ Qd H) ∨ (J.go i H ∧ ∃ Nx : Hp → Prop, (∀ H', Nx H' → ∃ m', m' < m ∧ W (i + 1) m' H') ∧ ∀ x H', J.yld i H x H' → g x (L2.wipe σ vs) H' fun σ2 H2 => L2.wipe σ2 vs = L2.wipe σ vs ∧ tt σ2 H2 fun b H3 =>
        if b = true then tk σ2 H3 fun y H4 => tv σ2 H4 fun z H5 => ∃ (kvs : List (List L2.Key × V)) (k : List L2.Key) (c : Addr), y = .ref c ∧ H5 c = some (.tup (k.map kV)) ∧ H5 D = some (.dT kvs) ∧ kvs.length < sizeLine ∧ Nx (upd H5 D (.dT (putK kvs k z))) else Nx H3) := by
  refine ⟨fun i m H => (m = n - i ∧ i ≤ n) ∧ Pv i H, ⟨n, ⟨rfl, Nat.zero_le _⟩, h0⟩, fun i m H z => ?_⟩
  obtain ⟨⟨rfl, hi⟩, p⟩ := z
  rcases Nat.lt_or_ge i n with hlt | hge
  · exact .inr ⟨w.goes i H hlt (hG i H hi p), Pv (i + 1), fun H' p' => ⟨n - (i + 1), by omega, ⟨rfl, hlt⟩, p'⟩, fun x H' y => hs i x H H' hlt p (w.yields i H x H' hlt (hG i H hi p) y)⟩
  · obtain rfl : i = n := by omega
    exact .inl ⟨w.stops H (hG _ H hi p), hd H p⟩
def xDcL (g : XG) (t : XT) (fk fv : XE) : List D → Dv → List (List L2.Key × D) → Mem → R (List (List L2.Key × D))
  | [], _, acc, M => .ok acc M
  | d :: ds, η, acc, M => (g d η M).calm.bind fun η' M1 => (t η' M1).calm.bind fun b M2 => if b = true then (fk η' M2).calm.bind fun y M3 => (fv η' M3).calm.bind fun z M4 => match asKey y with
      | some k => xDcL g t fk fv ds η (putD acc k z) M4
      | none => .no
    else xDcL g t fk fv ds η acc M2
def xDcT (i : XI) (g : XG) (t : XT) (fk fv : XE) (vs : List Nat) : XE := fun η M => (i η M).bind fun ds M1 => if ds.length ≤ 100000 then (xDcL g t fk fv ds (wipeD η vs) [] M1).bind fun acc M2 => .ok (.ptr M2.length) (M2 ++ [.dT acc]) else .no
theorem putMT {U : XK} {K : PySem.W.Frag} {mg : Str → Option Value} {F B H : Hp} {ρ : List Addr} {M : Mem} {kds : List (List L2.Key × D)} {kvs : List (List L2.Key × V)} {Q : VK} (m : MR K F B ρ M H) (r : Paired (PrD K B ρ) kds kvs)
    (w : Wp K mg F B ρ U (fun d B' ρ' H' => ∀ v, Rp K B' ρ' d v → Q v H') (.ok (.ptr M.length) (M ++ [.dT kds]))) : ∀ p, H p = none → Q (.ref p) (upd H p (.dT kvs)) := fun p hp => by
  have l : Le B ρ B (ρ ++ [p]) := ⟨Ex.refl B, [p], rfl⟩
  obtain ⟨m', _⟩ := m.alloc (o := .dT kvs) (ob := .dT kds) hp ⟨kvs, upd_same, Paired.mapP r fun _ _ z => ⟨z.1, z.2.mono l⟩⟩
  exact w _ _ _ l m' _ (.ptr (by rw [← m.len]; simp))
theorem putD_len {κ : Type} [DecidableEq κ] (kds : List (κ × D)) (k : κ) (v : D) : (putD kds k v).length ≤ kds.length + 1 := by
  unfold putD
  split
  · simp
  · simp
section
variable {X : Cx} {W : WX}
theorem de_dcT {kx vx tg it : Expr} {ifs : List Expr} {scope : Scope} {own : List (Str × Nat)} {pos : Pos} {fi : XI} {ts : List Nat} {gt : XG} {t : XT} {fk fv : XE} {W' : WX} {k : Nat} (hr : Room k X.A) (hc : X.calm = true) (hN : X.N.Nodup) (hi : DI X W tg it fi) (ok : BlkOk X.N X.env.scope scope own)
    (hg : ∀ (s : Shared) (H : Hp) (C : Addr) (cl : List (Str × Addr)) (fp : List Addr), DG (X.blk s H scope (compEnvC scope cl C X.env) fp) W' tg ts gt) (ht : ∀ (s : Shared) (H : Hp) (C : Addr) (cl : List (Str × Addr)) (fp : List Addr), DTs (X.blk s H scope (compEnvC scope cl C X.env) fp) W' ifs t)
    (hk : ∀ (s : Shared) (H : Hp) (C : Addr) (cl : List (Str × Addr)) (fp : List Addr), DE (X.blk s H scope (compEnvC scope cl C X.env) fp) W' kx fk) (hv : ∀ (s : Shared) (H : Hp) (C : Addr) (cl : List (Str × Addr)) (fp : List Addr), DE (X.blk s H scope (compEnvC scope cl C X.env) fp) W' vx fv)
    (hts : ∀ i ∈ ts, i ∈ own.map (·.2)) (hs : ∀ x, foldedSetIterable it X.env x = pure x := by intro _; rfl) : DE X W (.DictComp kx vx [⟨tg, it, ifs, 0⟩] scope pos) (xDcT fi gt t fk fv (own.map (·.2))) := by
  refine PE.imp (pe_dcT (g := tG X.K X.mg W' ts gt) (tt := tT X.K X.mg W' t) (tk := tE X.K X.mg W' fk) (tv := tE X.K X.mg W' fv) (by have := hr.un; omega) hc hN hi ok hg ht hk hv hs) fun σ H Q z => ?_
  obtain ⟨η, F, B, ρ, M, er, m, w⟩ := z
  refine ⟨η, F, B, ρ, M, er, m, w.bind fun ds M1 B1 ρ1 H1 l1 m1 w1 J wd => fun p hp => ?_⟩
  split at w1
  · next hlen =>
    obtain ⟨G, Y, wk, hG, hY⟩ := wd.w
    have hFp : F p = none := fresh_back m1.fr hp
    generalize ev : own.map (·.2) = vs at hts w1 ⊢
    refine dcT_it wk (fun i H' => ∃ B' ρ' M' acc dacc, MR X.K F B' ρ' M' H' ∧ Le B1 ρ1 B' ρ' ∧ H' p = some (.dT acc) ∧ B' p = none ∧ p ∉ ρ' ∧ Paired (PrD X.K B' ρ') dacc acc ∧ dacc.length ≤ i ∧
        Wp X.K X.mg F B' ρ' (wAt W σ) (fun d B' ρ' H' => ∀ v, Rp X.K B' ρ' d v → Q v H') ((xDcL gt t fk fv (ds.drop i) (wipeD η vs) dacc M').bind fun a M2 => .ok (.ptr M2.length) (M2 ++ [.dT a])))
      ⟨B1, ρ1, M1, [], [], m1.more (Ex.new hp), Le.refl _ _, upd_same, fresh_back m1.ex hp, m1.notin hp, .nil, Nat.le_refl _, by simpa using w1⟩
      (fun i H' _ ⟨B', ρ', M', _, _, m', l', _⟩ => hG H' (l'.1.trans m'.ex)) (fun i x H' H2 hi z y => ?_) (fun H' z => ?_)
    · obtain ⟨B', ρ', M', acc, dacc, m', l', hp', hB', hρ', ra, hla, w'⟩ := z
      have hd : ds[i]? = some ds[i] := List.getElem?_eq_getElem hi
      rw [List.drop_eq_getElem_cons hi] at w'
      have m'' : MR X.K (upd F p (.dT acc)) B' ρ' M' H' := add_frame m' hp' hB' hρ'
      obtain ⟨B2, l2, m2, r2, _⟩ := hY i ds[i] hd _ B' ρ' M' H' x H2 l' m'' y
      unfold xDcL at w'
      have e' : ER X.K B2 ρ' (wipeD η vs) (L2.wipe σ vs) := (er.mono ((l1.trans l'))).mono l2 |>.wipe _
      cases h1 : gt ds[i] (wipeD η vs) M' with
      | ex e0 M0 => rw [h1] at w'; exact w'.elim
      | no => rw [h1] at w'; exact w'.elim
      | ok η3 M3 =>
      simp only [h1, R.calm_ok, R.bind_ok] at w'
      refine ⟨ds[i], _, _, B2, ρ', M', r2, e', m2, ?_⟩
      rw [h1]
      intro B3 ρ3 H3 l3 m3 σ3 e3 off3
      refine ⟨wipe_off off3 hts ▸ wipe_off (ts := vs) (σ := σ) ⟨L2.wipe_length _ _, fun j hj => L2.wipe_out hj⟩ fun t ht => ht, ?_⟩
      cases h2 : t η3 M3 with
      | ex e0 M0 => rw [h2] at w'; exact w'.elim
      | no => rw [h2] at w'; exact w'.elim
      | ok bb M4 =>
      simp only [h2, R.calm_ok, R.bind_ok] at w'
      refine ⟨η3, _, B3, ρ3, M3, e3, m3, ?_⟩
      rw [h2]
      intro B4 ρ4 H4 l4 m4
      have lz : Le B' ρ' B4 ρ4 := (l2.trans l3).trans l4
      cases bb with
      | false =>
        simp only [Bool.false_eq_true, if_false] at w' ⊢
        have hp4 : H4 p = some (.dT acc) := m4.fr p _ upd_same
        obtain ⟨hB4, hρ4⟩ := m4.dj p _ upd_same
        exact ⟨B4, ρ4, M4, acc, dacc, m4.less hFp, l'.trans lz, hp4, hB4, hρ4, Paired.mapP ra fun _ _ z => ⟨z.1, z.2.mono lz⟩, by omega, w'.mono lz⟩
      | true =>
        simp only [if_true] at w' ⊢
        cases h3 : fk η3 M4 with
        | ex e0 M0 => rw [h3] at w'; exact w'.elim
        | no => rw [h3] at w'; exact w'.elim
        | ok yy M5 =>
        simp only [h3, R.calm_ok, R.bind_ok] at w'
        refine ⟨η3, _, B4, ρ4, M4, e3.mono l4, m4, ?_⟩
        rw [h3]
        intro B5 ρ5 H5 l5 m5 v5 r5
        cases h4 : fv η3 M5 with
        | ex e0 M0 => rw [h4] at w'; exact w'.elim
        | no => rw [h4] at w'; exact w'.elim
        | ok zz M6 =>
        simp only [h4, R.calm_ok, R.bind_ok] at w'
        refine ⟨η3, _, B5, ρ5, M5, e3.mono (l4.trans l5), m5, ?_⟩
        rw [h4]
        intro B6 ρ6 H6 l6 m6 v6 r6
        split at w'
        · next ky hky =>
          have lz6 : Le B' ρ' B6 ρ6 := (lz.trans l5).trans l6
          have hp6 : H6 p = some (.dT acc) := m6.fr p _ upd_same
          obtain ⟨c, rfl, hc6⟩ := asKey_snd m6 (r5.mono l6) hky
          have ra6 : Paired (PrD X.K B6 ρ6) dacc acc := Paired.mapP ra fun _ _ z => ⟨z.1, z.2.mono lz6⟩
          have hl := pr_len ra6
          obtain ⟨m7, hB7, hρ7⟩ := drop_frame m6 hFp (.dT (putK acc ky v6))
          have := putD_len dacc ky zz
          exact ⟨acc, ky, c, rfl, hc6, hp6, by rw [sizeLine_eq]; omega, B6, ρ6, M6, putK acc ky v6, putD dacc ky zz, m7, l'.trans lz6, upd_same, hB7, hρ7, putD_snd ra6 r6, by omega, w'.mono lz6⟩
        · exact w'.elim
    · obtain ⟨B', ρ', M', acc, dacc, m', l', hp', hB', hρ', ra, hla, w'⟩ := z
      rw [List.drop_length] at w'
      have hq := putMT (m'.hide hFp hB' hρ') ra w' p (if_pos rfl)
      rw [hide_upd hp'] at hq
      exact hq
  · exact w1.elim
end
end Dn

/-! DnPairs: dict(xs) of a list of pairs -/
namespace Dn
open PySem PyProof.Rows L2 Evl PySem.Spec PySem.Calls
theorem key_stay {prog : Program} {w : World} {h h' : Heap} {k : List L2.Key} {a : Addr} (x : (tupleKind (mixKind prog w)).is h k a) (e : ∀ o, h.get? a = some o → h'.get? a = some o) : (tupleKind (mixKind prog w)).is h' k a := by
  obtain ⟨o, its, n, h1, h2⟩ := x
  exact ⟨o, its, n, e o h1, h2⟩
theorem dict_stay {prog : Program} {w : World} {h h' : Heap} {d : Addr} {xs : List (List L2.Key × Addr × Value)} (x : h.DictOfH (tupleKind (mixKind prog w)) d xs) (e : ∀ o, h.get? d = some o → h'.get? d = some o) (ek : ∀ y ∈ xs, ∀ o, h.get? y.2.1 = some o → h'.get? y.2.1 = some o) : h'.DictOfH (tupleKind (mixKind prog w)) d xs := by
  obtain ⟨o, es, ep, h1, h2, h3, h4, h5, h6⟩ := x
  exact ⟨o, es, ep, e o h1, h2, h3, h4, fun y hy => key_stay (h5 y hy) (ek y hy), h6⟩
def mergedH (acc : List (List L2.Key × Addr × Value)) : List (List L2.Key × Addr × Value) → List (List L2.Key × Addr × Value)
  | [] => acc
  | q :: r => mergedH (storedH acc q.1 q.2.1 q.2.2) r
theorem storedH_mem {acc : List (List L2.Key × Addr × Value)} {k : List L2.Key} {a : Addr} {v : Value} {P : Addr → Prop} (h : ∀ y ∈ acc, P y.2.1) (ha : P a) : ∀ y ∈ storedH acc k a v, P y.2.1 := by
  intro y hy
  unfold storedH at hy
  split at hy
  · obtain ⟨z, hz, rfl⟩ := List.mem_map.mp hy
    have := h z hz
    unfold putAt
    split <;> exact this
  · rcases List.mem_append.mp hy with q | q
    · exact h y q
    · simp at q; subst q; exact ha
theorem storedH_len (acc : List (List L2.Key × Addr × Value)) (k : List L2.Key) (a : Addr) (v : Value) : (storedH acc k a v).length ≤ acc.length + 1 := by
  unfold storedH
  split <;> simp
section
variable {prog : Program} {w : World} {A : Around} {E : Value → Shared → Prop}
/-- the walk over the pairs, the keys tuples -/
theorem upd_loopT {R : Result → Shared → Prop} {S I l : Addr} {items : Array Value} {res : Value} (hu : A.units + 1 < cLine) (hh : A.handled = none) (n1 : l ≠ I) (n2 : S ≠ I) (n3 : S ≠ l) :
    ∀ (rest : List (List L2.Key × Addr × Value)) (i : Nat) (acc : List (List L2.Key × Addr × Value)) (ix : Int) (t : Tok) (s : Shared), items.size = i + rest.length → acc.length + rest.length ≤ sizeLine → (∀ y ∈ acc, y.2.1 ≠ I ∧ y.2.1 ≠ S) →
      (∀ (j : Nat) (q : List L2.Key × Addr × Value), rest[j]? = some q → ∃ b, items[i + j]? = some (.ref b) ∧ b ≠ S ∧ b ≠ I ∧ q.2.1 ≠ S ∧ q.2.1 ≠ I ∧ IsTup s.heap b #[.ref q.2.1, q.2.2] ∧ (tupleKind (mixKind prog w)).is s.heap q.1 q.2.1) →
      s.heap.IsListIter I l i → s.heap.IsList l items → s.heap.DictOfH (tupleKind (mixKind prog w)) S acc →
      (∀ h' tk, h'.DictOfH (tupleKind (mixKind prog w)) S (mergedH acc rest) → (∀ b o, b ≠ S → b ≠ I → s.heap.get? b = some o → h'.get? b = some o) → R (.ok (.ret res)) { s with heap := h', toks := tk }) →
      codeAny (model prog w) A (.builtin "dict.update.loop" ⟨[.ref S, .ref I, .int ix t, res], []⟩) R s
  | [], i, acc, ix, t, s, z1, z2, ha, ht, hit, hl, hm, hR => by
    refine codeAny_builtin ud_entry ?_
    rw [Around.under_plainId ud_plain _]
    show wpAny _ A.in1 (pyNext (.ref I) >>= _) _ _ s
    refine wpAny_bind (wpAny_pyNext_list_end (A := A.in1) hh hit hl (Array.getElem?_eq_none (Nat.le_of_eq z1)) fun h1 he => ?_)
    show wpAny _ A.in1 (Builtin.Dict.addKeywords S [] >>= _) _ _ _
    exact wpAny_bind (wpAny_pure (wpAny_pure (hR h1 s.toks (dict_stay hm (fun o e => he S o n2 e) fun y hy o e => he _ o (ha y hy).1 e) fun b o _ nb e => he b o nb e)))
  | q :: rest, i, acc, ix, t, s, z1, z2, ha, ht, hit, hl, hm, hR => by
    obtain ⟨b, c1, c2, c3, c4, c5, c6, c7⟩ := ht 0 q rfl
    rw [List.length_cons] at z1 z2
    refine codeAny_builtin ud_entry ?_
    rw [Around.under_plainId ud_plain _]
    show wpAny _ A.in1 (pyNext (.ref I) >>= _) _ _ s
    refine wpAny_bind (wpAny_pyNext_list_item (x := .ref b) hit hl (by simpa using c1) fun h1 i1 sb1 => ?_)
    have t1 : IsTup h1 b #[.ref q.2.1, q.2.2] := c6.extBut sb1.extBut c3
    have d1 : h1.DictOfH (tupleKind (mixKind prog w)) S acc := dict_stay hm (fun o e => sb1.extBut S o n2 e) fun y hy o e => sb1.extBut _ o (ha y hy).1 e
    have k1 : (tupleKind (mixKind prog w)).is h1 q.1 q.2.1 := key_stay c7 fun o e => sb1.extBut _ o c5 e
    obtain ⟨o, ho, hc, n, hd⟩ := id t1
    show wpAny _ A.in1 (holding [Value.ref b] _ >>= _) _ _ _
    refine wpAny_bind (wpAny_holding (wpAny_bind (wpAny_tryCatch ?_)))
    unfold Builtin.Dict.pairItems
    refine wpAny_bind (wpAny_typeOf (T := "tuple") ⟨o, ho, hc⟩ ?_)
    rw [if_pos (by first | decide | rfl | simp)]
    refine wpAny_bind (wpAny_seqItems ho hd (wpAny_pure ?_))
    show wpAny _ A.in1 (holding [Value.ref q.2.1, q.2.2] (dictSet S (.ref q.2.1) q.2.2)) _ _ _
    refine wpAny_holding (wpAny_dictSet_heap (knd := tupleKind (mixKind prog w)) (k := q.1) (show A.units + 1 < cLine from hu) k1 d1 (fun h2 d2 sb2 => ?_) (by omega))
    have zz := storedH_len acc q.1 q.2.1 q.2.2
    refine wpAny_pure ⟨plainId_quiet ud_plain _, upd_loopT (items := items) hu hh n1 n2 n3 rest (i + 1) (storedH acc q.1 q.2.1 q.2.2) (ix + 1) 0 _ (by omega) (by omega) (storedH_mem (P := fun a => a ≠ I ∧ a ≠ S) ha ⟨c5, c4⟩) (fun j q' e => ?_) (i1.at fun o' e => sb2.extBut I o' (Ne.symm n2) e) ((hl.extBut sb1.extBut n1).extBut sb2.extBut (Ne.symm n3)) d2 fun h' tk hd' k => hR h' tk hd' fun c oc g1 g2 e => k c oc g1 g2 (sb2.extBut c oc g1 (sb1.extBut c oc g2 e))⟩
    obtain ⟨b', e1, e2, e3, e4, e5, e6, e7⟩ := ht (j + 1) q' (by simpa using e)
    exact ⟨b', by rw [show i + 1 + j = i + (j + 1) by omega]; exact e1, e2, e3, e4, e5, (e6.extBut sb1.extBut e3).extBut sb2.extBut e2, key_stay (key_stay e7 fun o e => sb1.extBut _ o e5 e) fun o e => sb2.extBut _ o e4 e⟩
theorem call_pairsT {s : Shared} {l : Addr} {ol : Obj} {items : Array Value} {n : Nat} {prs : List (List L2.Key × Addr × Value)} {Q : Value → Shared → Prop} (hu : A.units + 2 < cLine) (hh : A.handled = none) (hl : s.heap.get? l = some ol) (hc : ol.cls = .type "list") (hd : ol.dict = none)
    (hdat : ol.data = .seq items n) (z1 : items.size = prs.length) (z2 : prs.length ≤ sizeLine)
    (ht : ∀ (j : Nat) (q : List L2.Key × Addr × Value), prs[j]? = some q → ∃ b, items[j]? = some (.ref b) ∧ IsTup s.heap b #[.ref q.2.1, q.2.2] ∧ (tupleKind (mixKind prog w)).is s.heap q.1 q.2.1)
    (h : ∀ h' tk, h'.DictOfH (tupleKind (mixKind prog w)) s.heap.objs.size (mergedH [] prs) → (∀ b o, s.heap.get? b = some o → h'.get? b = some o) → Q (.ref s.heap.objs.size) { s with heap := h', toks := tk }) :
    wpAny (model prog w) A (call (.type "dict") [.ref l]) Q E s := by
  refine callType_codes (Q₁ := fun obj r => obj = .ref s.heap.objs.size ∧ r = { s with heap := s.heap.push { cls := .type "dict", data := .dict #[] } }) PySem.F.kt_called_dict (PySem.F.kt_typeCall_dict_1 _) PySem.F.entry_dict_init (kt_code_dict_new _ ⟨rfl, rfl⟩) ?_
  rintro obj s1 ⟨rfl, rfl⟩
  have dn : (s.heap.push { cls := .type "dict", data := .dict #[] }).DictOfH (tupleKind (mixKind prog w)) s.heap.objs.size [] := Heap.DictOfH.new s.heap
  have k0 : ∀ b o, s.heap.get? b = some o → (s.heap.push { cls := .type "dict", data := .dict #[] }).get? b = some o := fun b o e => Heap.get?_push_of_some _ e
  refine ⟨dn.typeIs, PySem.F.args_dict_init_2 _ _, ?_⟩
  unfold Builtin.«dict.__init__»
  refine wpAny_bind ?_
  unfold Builtin.Dict.selfAndRest
  refine wpAny_bind (wpAny_notOrdered_dict dn.typeIs ?_)
  show wpAny _ _ (pure (s.heap.objs.size, [Value.ref l])) _ _ _
  refine wpAny_pure ?_
  show wpAny _ _ (Builtin.Dict.updateFrom "dict.__init__" s.heap.objs.size (.ref l) [] .none) _ _ _
  unfold Builtin.Dict.updateFrom
  refine wpAny_bind (wpAny_typeOf (T := "list") ⟨ol, k0 _ _ hl, hc⟩ ?_)
  rw [if_pos (by first | decide | rfl | simp)]
  refine wpAny_bind (miss_list (k0 _ _ hl) hc hdat hd hh fun h1 tk1 k1 => ?_)
  rw [if_pos (show (none : Option Value).isNone = true from rfl)]
  refine wpAny_bind (wpAny_rule ?_)
  have l1 : h1.IsList l items := ⟨ol, k1 _ _ (k0 _ _ hl), hc, n, hdat⟩
  have S1 : s.heap.objs.size < h1.objs.size := Heap.lt_size (k1 _ _ (Heap.get?_push_size _ rfl))
  refine wpAny_bind (wpAny_pyIter_list l1 ?_)
  have k2 : ∀ b o, h1.get? b = some o → (h1.push { cls := .type "list_iterator", data := .fields #[.ref l, .int 0 0] }).get? b = some o := fun b o e => Heap.get?_push_of_some _ e
  have hlt : l < s.heap.objs.size := Heap.lt_size hl
  have key := upd_loopT (prog := prog) (w := w) (A := A.in1) (R := wants (fun r s₂ => r = .none ∧ Q (.ref s.heap.objs.size) s₂) E) (S := s.heap.objs.size) (I := h1.objs.size) (l := l) (items := items) (res := Value.none) (show A.units + 1 + 1 < cLine by omega) hh
    (Nat.ne_of_lt (Nat.lt_trans hlt S1)) (Nat.ne_of_lt S1) (Nat.ne_of_gt hlt) prs 0 [] 0 0 { s with heap := h1.push { cls := .type "list_iterator", data := .fields #[.ref l, .int 0 0] }, toks := tk1 } (by omega) (by simpa using z2) (fun y hy => by simp at hy)
    (fun j q e => by
      obtain ⟨b, e1, e2, e3⟩ := ht j q e
      have hb : b < s.heap.objs.size := e2.lt
      have hq : q.2.1 < s.heap.objs.size := let ⟨_, _, _, z, _⟩ := e3; Heap.lt_size z
      exact ⟨b, by rw [Nat.zero_add]; exact e1, Nat.ne_of_lt hb, Nat.ne_of_lt (Nat.lt_trans hb S1), Nat.ne_of_lt hq, Nat.ne_of_lt (Nat.lt_trans hq S1), e2.keeps fun c o z => k2 _ _ (k1 _ _ (k0 _ _ z)), key_stay e3 fun o z => k2 _ _ (k1 _ _ (k0 _ _ z))⟩)
    ⟨_, Heap.get?_push_size _ rfl, rfl, rfl⟩ (l1.at fun o e => k2 _ _ e) (dict_stay dn (fun o e => k2 _ _ (k1 _ _ e)) fun y hy => by simp at hy)
    (fun h' tk hd' k => ⟨rfl, h h' tk hd' fun b o e => k b o (Nat.ne_of_lt (Heap.lt_size e)) (Nat.ne_of_lt (Nat.lt_trans (Heap.lt_size e) S1)) (k2 _ _ (k1 _ _ (k0 _ _ e)))⟩)
  first
    | exact wpAny_pure ⟨plainId_quiet ud_plain _, key⟩
    | exact wpAny_bind (wpAny_pure (wpAny_pure ⟨plainId_quiet ud_plain _, key⟩))
end
def mergeT (acc : List (List L2.Key × V)) : List (List L2.Key × V) → List (List L2.Key × V)
  | [] => acc
  | q :: r => mergeT (putK acc q.1 q.2) r
theorem mergeT_len : ∀ (r acc : List (List L2.Key × V)), (mergeT acc r).length ≤ acc.length + r.length
  | [], acc => Nat.le_refl _
  | q :: r, acc => by
    have h1 := mergeT_len r (putK acc q.1 q.2)
    have h2 := length_putK acc q.1 q.2
    unfold mergeT
    rw [List.length_cons]
    omega
theorem KT_merge {H : Hp} : ∀ {r : List (List L2.Key × V)} {rs : List (List L2.Key × Addr × Value)} {acc : List (List L2.Key × V)} {as : List (List L2.Key × Addr × Value)}, KT H r rs → KT H acc as → KT H (mergeT acc r) (mergedH as rs)
  | [], _, _, _, .nil, q => q
  | p :: r, q :: rs, acc, as, .cons h t, z => by
    unfold mergeT mergedH
    refine KT_merge t ?_
    have := z.put p.1 h.2.1 h.2.2
    rw [← h.1]
    exact this
section
variable {X : Cx} {W : WX}
theorem call_dictT {k : Nat} (hr : Room k X.A) (hc : X.calm = true) : CallR X (.type "dict") (fun xs H Q => ∃ (a : Addr) (ps : List Addr) (kqs : List (List L2.Key × Addr × V)), xs = [.ref a] ∧ SqL X.K H a (ps.map V.ref) ∧ Paired (fun p kq => SqT X.K H p [.ref kq.2.1, kq.2.2] ∧ H kq.2.1 = some (.tup (kq.1.map kV))) ps kqs ∧
    ∀ p, H p = none → Q (.ref p) (upd H p (.dT (mergeT [] (kqs.map fun z => (z.1, z.2.2)))))) := by
  intro pins s σ H xs us Q I r q
  obtain ⟨a, ps, kqs, rfl, hq, hp, q⟩ := q
  obtain ⟨u, rfl, rx⟩ := vals1 r
  cases rx
  obtain ⟨its, rv, pl, hz⟩ := I.list hq
  have ei := refs_at rv
  subst ei
  rw [List.length_map] at hz
  have gen : ∀ {ps : List Addr} {kqs : List (List L2.Key × Addr × V)}, Paired (fun p kq => SqT X.K H p [.ref kq.2.1, kq.2.2] ∧ H kq.2.1 = some (.tup (kq.1.map kV))) ps kqs → ∃ prs : List (List L2.Key × Addr × Value), KT H (kqs.map fun z => (z.1, z.2.2)) prs ∧ prs.length = ps.length ∧
      ∀ (j : Nat) (q : List L2.Key × Addr × Value), prs[j]? = some q → ∃ b, ps[j]? = some b ∧ IsTup s.heap b #[.ref q.2.1, q.2.2] ∧ (tupleKind (mixKind X.prog X.w)).is s.heap q.1 q.2.1 := by
    intro ps kqs h
    induction h with
    | nil => exact ⟨[], .nil, rfl, fun j q e => by simp at e⟩
    | @cons p kq ps kqs h t ih =>
      obtain ⟨prs, r1, r2, r3⟩ := ih
      obtain ⟨its, rv, ht, _⟩ := I.tuple h.1
      obtain ⟨u1, u2, rfl, ru, ry⟩ := vals2 rv
      cases ru
      refine ⟨(kq.1, kq.2.1, u2) :: prs, .cons ⟨rfl, h.2, ry⟩ r1, by simp [r2], fun j q e => ?_⟩
      cases j with
      | zero =>
        obtain rfl : (kq.1, kq.2.1, u2) = q := Option.some.inj e
        exact ⟨p, rfl, ht, key_of I.hok h.2⟩
      | succ j =>
        obtain ⟨b, e1, e2⟩ := r3 j q (by simpa using e)
        exact ⟨b, by simpa using e1, e2⟩
  obtain ⟨prs, r1, r2, r3⟩ := gen hp
  obtain ⟨o, n, ho, c1, c2, c3⟩ := pl
  have hu := hr.un
  refine call_pairsT (prs := prs) (by omega) (I.ok.hd hc) ho c1 c2 c3 (by simp [r2]) (by rw [r2]; exact hz) (fun j q' e => ?_) fun h' tk dd k => ?_
  · obtain ⟨b, e1, e2, e3⟩ := r3 j q' e
    exact ⟨b, by simp [e1], e2, e3⟩
  · have hm : (s.heap.objs.size == sysModules) = false := beq_eq_false_iff_ne.mpr (Nat.ne_of_gt I.big)
    have hn : H s.heap.objs.size = none := I.hok.fresh (Nat.le_refl _)
    have lk : (kqs.map fun z => (z.1, z.2.2)).length = prs.length := Paired.length r1
    have hlen : (mergeT [] (kqs.map fun z => (z.1, z.2.2))).length ≤ sizeLine := by
      refine Nat.le_trans (mergeT_len _ []) ?_
      rw [List.length_nil, Nat.zero_add, lk, r2]
      exact hz
    obtain ⟨q0, es, ep, d1, d2, d3, d4, _, d5⟩ := dd
    refine ⟨.ref s.heap.objs.size, _, I.laid (t' := tk) (o := .dT (mergeT [] (kqs.map fun z => (z.1, z.2.2)))) k (Nat.le_refl _) ⟨hlen, hm, _, (KT_merge r1 .nil).keeps fun c ys ec => ?_, q0, es, ep, d1, d2, d3, d4, d5⟩, rfl, q _ hn⟩
    rw [upd_ne (ne_of_none ec hn)]
    exact ec
/-- pairs as data -/
def pairT : D → Option (List L2.Key × D)
  | .tup [y, v] => (asKey y).map fun k => (k, v)
  | _ => none
def pairsT : List D → Option (List (List L2.Key × D))
  | [] => some []
  | d :: ds => (pairT d).bind fun p => (pairsT ds).map (p :: ·)
def mergeD {κ : Type} [DecidableEq κ] (acc : List (κ × D)) : List (κ × D) → List (κ × D)
  | [] => acc
  | q :: r => mergeD (putD acc q.1 q.2) r
theorem mergeD_snd {K : PySem.W.Frag} {B : Hp} {ρ : List Addr} : ∀ {r : List (List L2.Key × D)} {rs acc2 : List (List L2.Key × V)} {acc : List (List L2.Key × D)}, Paired (PrD K B ρ) r rs → Paired (PrD K B ρ) acc acc2 → Paired (PrD K B ρ) (mergeD acc r) (mergeT acc2 rs)
  | _, _, _, _, .nil, q => q
  | p :: _, q :: _, _, _, .cons h t, z => by
    unfold mergeD mergeT
    rw [show p.1 = q.1 from h.1]
    exact mergeD_snd t (putD_snd z h.2)
theorem pairsT_snd {K : PySem.W.Frag} {F B H : Hp} {ρ : List Addr} {M : Mem} (m : MR K F B ρ M H) : ∀ {ds : List D} {vs : List V} {kds : List (List L2.Key × D)}, Rps K B ρ ds vs → pairsT ds = some kds → ∃ (ps : List Addr) (kqs : List (List L2.Key × Addr × V)), vs = ps.map V.ref ∧ Paired (fun p kq => SqT K H p [.ref kq.2.1, kq.2.2] ∧ H kq.2.1 = some (.tup (kq.1.map kV))) ps kqs ∧ Paired (PrD K B ρ) kds (kqs.map fun z => (z.1, z.2.2))
  | _, _, _, .nil, h => by cases h; exact ⟨[], [], rfl, .nil, .nil⟩
  | _, _, _, .cons (d := d) (ds := ds) r rs, h => by
    unfold pairsT at h
    cases h1 : pairT d with
    | none => simp [h1] at h
    | some p =>
      cases h2 : pairsT ds with
      | none => simp [h1, h2] at h
      | some kds =>
        simp [h1, h2] at h
        subst h
        obtain ⟨ps, kqs, e1, e2, e3⟩ := pairsT_snd m rs h2
        unfold pairT at h1
        split at h1
        · next y v =>
          cases hk : asKey y with
          | none => simp [hk] at h1
          | some k =>
            simp [hk] at h1
            subst h1
            cases r with
            | @tup a vs _ e q z =>
              cases q with
              | cons q1 q2 =>
                cases q2 with
                | cons q3 q4 =>
                  cases q4
                  obtain ⟨b, rfl, hb⟩ := asKey_snd m q1 hk
                  exact ⟨a :: ps, (k, b, _) :: kqs, by rw [e1]; rfl, .cons ⟨ex_t m.ex e, hb⟩ e2, .cons ⟨rfl, q3⟩ e3⟩
        · cases h1
def xDictP (g : XA) : XE := fun η M => (g η M).bind fun ds M1 => match ds with
  | [d] => (R.of ((asL M1 d).bind pairsT) M1).bind fun kds M2 => .ok (.ptr M2.length) (M2 ++ [.dT (mergeD [] kds)])
  | _ => .no
theorem de_dictP {k : Nat} {e : Expr} {fa : XA} {p pos : Pos} (hr : Room k X.A) (hc : X.calm = true) (hg : Gl X "dict") (hm : X.mg "dict" = none) (ha : DA X W [e] fa) (hs : starEach [e] X.env = (false, eval e X.env) :: starEach [] X.env := by rfl) (hp : (backTo pos (starEach [] X.env)).any (·.1) = false := by rfl) :
    DE X W (.Call (.Name "dict" p) [e] [] pos) (xDictP fa) := PE.imp (pe_callTy (call_dictT hr hc) hg hm bt_dict ha (by decide) (by decide) hs hp) fun σ H Q z => by
  obtain ⟨η, F, B, ρ, M, er, m, w⟩ := z
  refine ⟨η, F, B, ρ, M, er, m, w.bind fun ds M1 B1 ρ1 H1 l1 m1 w1 vs rv => ?_⟩
  split at w1
  · next d =>
    cases rv with
    | cons r rr =>
      cases rr
      cases h1 : asL M1 d with
      | none => rw [h1] at w1; exact w1.elim
      | some es =>
        cases h2 : pairsT es with
        | none => rw [h1] at w1; simp only [Option.bind_some, h2] at w1; exact w1.elim
        | some kds =>
          rw [h1] at w1
          simp only [Option.bind_some, h2, R.of_some, R.bind_ok] at w1
          obtain ⟨a, vs, rfl, hs, rs⟩ := asL_snd m1 r h1
          obtain ⟨ps, kqs, rfl, e2, e3⟩ := pairsT_snd m1 rs h2
          exact ⟨a, ps, kqs, rfl, hs, e2, putMT m1 (mergeD_snd e3 .nil) w1⟩
  · exact w1.elim
end
end Dn

/-! DnOwn: list methods in general; len by an own __len__ -/
namespace Dn
open PySem PyProof.Rows L2 Evl PySem.Spec
/-! ### methods of a list that may change -/
abbrev OpL := Mem → List D → List D → Option (D × List D)
def xLM (h : OpL) (f : XE) (fa : XA) : XE := fun η M => (f η M).bind fun d M1 => match d with
  | .ptr n => match M1[n]? with
    | some (.lst _) => (fa η M1).bind fun es M2 => match M2[n]? with
      | some (.lst ds) => match h M2 ds es with
        | some (r, ds') => .ok r (M2.set n (.lst ds'))
        | none => .no
      | _ => .no
    | _ => .no
  | _ => .no
def LMD (X : Cx) (id : String) (h : OpL) : Prop := ∃ r, MtR X id r ∧ ∀ F B ρ M H a vs xs ds es d ds' (Q : VK), MR X.K F B ρ M H → H a = some (.lst vs) → Rps X.K B ρ ds vs → Rps X.K B ρ es xs → h M ds es = some (d, ds') → (∀ v vs', Rp X.K B ρ d v → Rps X.K B ρ ds' vs' → Q v (upd H a (.lst vs'))) → r (.ref a) xs H Q
section
variable {X : Cx} {W : WX} {o e : Expr} {es : List Expr} {f : XE} {fa : XA} {apos pos : Pos} {id : String} {name : Str} {h : OpL}
theorem lm_snd {r : V → List V → Hp → VK → Prop} (os : ∀ F B ρ M H a vs xs ds es d ds' (Q : VK), MR X.K F B ρ M H → H a = some (.lst vs) → Rps X.K B ρ ds vs → Rps X.K B ρ es xs → h M ds es = some (d, ds') → (∀ v vs', Rp X.K B ρ d v → Rps X.K B ρ ds' vs' → Q v (upd H a (.lst vs'))) → r (.ref a) xs H Q)
    (σ : L2.St) (H : Hp) (Q : VK) (z : tE X.K X.mg W (xLM h f fa) σ H Q) : tBM X.K "list" r (tE X.K X.mg W f) (tA X.K X.mg W fa) σ H Q := by
  obtain ⟨η, F, B, ρ, M, er, m, w⟩ := z
  refine ⟨η, F, B, ρ, M, er, m, w.bind fun d M1 B1 ρ1 H1 l1 m1 w1 x rx => ?_⟩
  cases rx with
  | @ptr n a ha =>
    dsimp only at w1
    split at w1
    · next ds0 hm0 =>
      obtain ⟨us0, hH0, rs0, hB0⟩ := m1.list ha hm0
      refine ⟨.inl ⟨rfl, us0, sq_of hH0⟩, η, F, B1, ρ1, M1, er.mono l1, m1, w1.bind fun es M2 B2 ρ2 H2 l2 m2 w2 vs rv => ?_⟩
      split at w2
      · next ds hm =>
        split at w2
        · next r0 ds' hh =>
          obtain ⟨us, hH, rs, hB⟩ := m2.list (l2.at ha) hm
          refine os F B2 ρ2 M2 H2 a us vs ds es r0 ds' Q m2 hH rs rv hh fun v vs' rr rs' => ?_
          exact w2 _ _ _ (Le.refl _ _) (m2.put (o := .lst vs') (ob := .lst ds') (l2.at ha) hm (by intro z; cases z) ⟨_, upd_same, rs'⟩) v rr
        · exact w2.elim
      · exact w2.elim
    · exact w1.elim
  | _ => exact w1.elim
theorem de_lm (L : LMD X id h) (slot : Slot "list" name id) (hty : typeOf (.builtin id) = pure (.type "method_descriptor")) (ho : DE X W o f) (ha : DA X W (e :: es) fa) (hbase : attributeBase o name X.env (eval o X.env) = eval o X.env := by rfl)
    (hfew : ((backTo pos (starEach (e :: es) X.env)).all (fun x => !x.1) && (backToKw pos (keywordEach [] X.env)).all (fun x => x.1.isSome) && decide ((e :: es).length + ([] : List Keyword).length + (if ([] : List Keyword).isEmpty then 0 else 1) < 30)) = true := by rfl)
    (hline : (apos.endLine == pos.line) = true := by rfl) (hs : starEach (e :: es) X.env = (false, eval e X.env) :: starEach es X.env := by rfl) (hplain : (backTo pos (starEach es X.env)).any (·.1) = false := by rfl) :
    DE X W (.Call (.Attribute o name apos) (e :: es) [] pos) (xLM h f fa) := by
  obtain ⟨r, hm, os⟩ := L
  exact PE.imp (pe_bm PySem.F.plainAttrs_list slot hty hm ho ha hbase hfew hline hs hplain) (lm_snd os)
/-- xs.pop(i) -/
def lPop : OpL := fun _ ds es => match es with
  | [.int i] => if -(2 ^ 63) ≤ i ∧ i < 2 ^ 63 then (seqIndex? i ds.length).bind fun k => (ds[k]?).map fun y => (y, ds.eraseIdx k) else none
  | _ => none
theorem Rps.erase {K : PySem.W.Frag} {B : Hp} {ρ : List Addr} : ∀ {ds : List D} {vs : List V} (k : Nat), Rps K B ρ ds vs → Rps K B ρ (ds.eraseIdx k) (vs.eraseIdx k)
  | _, _, _, .nil => .nil
  | _, _, 0, .cons _ t => t
  | _, _, k + 1, .cons h t => .cons h (t.erase k)
theorem lm_pop : LMD X "list.pop" lPop := by
  refine ⟨rPopAt, mt_popAt, fun F B ρ M H a vs xs ds es d ds' Q m hH rs re h k => ?_⟩
  unfold lPop at h
  split at h
  · next i =>
    cases re with
    | cons r1 r2 =>
      cases r2
      cases r1
      split at h
      · next hi =>
        cases h1 : seqIndex? i ds.length with
        | none => simp [h1] at h
        | some j =>
          cases h2 : ds[j]? with
          | none => simp [h1, h2] at h
          | some y =>
            simp only [h1, h2, Option.bind_some, Option.map_some] at h
            obtain ⟨rfl, rfl⟩ := Prod.mk.inj (Option.some.inj h)
            obtain ⟨v, h3, h4⟩ := rs.get h2
            exact ⟨a, vs, i, j, v, rfl, rfl, hH, hi.1, hi.2, by rw [← rs.len]; exact h1, h3, k v _ h4 (rs.erase j)⟩
      · cases h
  · cases h
/-! ### len by an own __len__ -/
theorem call_lenO {C g : Addr} {k : Nat} {fd : FuncData} {ps : List Str} {sp : Sp} (F : FnOk X.prog X.w X.K X.mg X.base CX0 k g fd ps sp) (hs : PySem.W.findIn X.K (.ref C) "__len__" = some (some (.ref g))) (hf : PySem.W.isFn X.K (.ref g) = true) (hb : Binds X.K fd ps []) (hr : Room (k + 1) X.A) :
    CallR X (.builtin "len") (fun xs H Q => ∃ (a dx : Addr) (fs : List (Str × V)), xs = [.ref a] ∧ H a = some (.ins C dx fs) ∧ sp [.ref a] H (fun v H' => ∃ n : Int, v = .int n ∧ 0 ≤ n ∧ n < 2 ^ 63 ∧ Q (.int n) H') E0) := by
  intro pins s σ H xs us Q I r q
  obtain ⟨a, dx, fs, rfl, ha, hsp⟩ := q
  obtain ⟨u, rfl, rx⟩ := vals1 r
  cases rx
  obtain ⟨mA, J, _⟩ := ins_get I.hok ha
  obtain ⟨od, J, _⟩ := J.look
  have sp1 : PySem.W.Looks (model X.prog X.w) s.heap (specialOf (.ref a) "__len__") (some (.ref g)) := J.type.andThen (PySem.W.looks_findIn I.kIn hs)
  have bd := PySem.W.bind_fn (M := model X.prog X.w) I.kIn (.ref a) (beq_iff_eq.mp hf)
  refine Calls.call_function_entry kind_len plain_len entry_len (args_len1 _) ?_
  unfold Builtin.«len»
  refine wpAny_bind (m := oneArg "len" _) (wpAny_pure (wpAny_bind (m := callSpecial? (.ref a) (PySem.Str.ofString "__len__")) ?_))
  simp only [callSpecial?]
  refine wpAny_bind (sp1.here (wpAny_holding (wpAny_bind (bd.here (wpAny_bind ?_)))))
  have e0 : Env0 X.prog X.w X.K X.mg X.base X.A.in1 X.stack s H := let e := I.env0; ⟨e.frames, e.mod, e.bs, e.bsz, e.funs, e.frf, e.hok, e.bare⟩
  have hl := F.len _ _ _ _ hsp
  refine wpAny_call (codeAny_mono (F.run X.A.in1 X.stack s H ⟨[.ref a], []⟩ [.ref a] [.ref a] _ E0 hr.in1 e0 (by simpa using hb s [.ref a] I.kIn (by simpa using hl)) (.cons rfl .nil) hsp) fun r s' hq => ?_)
  cases r with
  | error e => exact False.elim hq
  | ok fl =>
    cases fl with
    | ret w =>
      obtain ⟨z, H', I', rz, n, rfl, h0, h1, qq⟩ := I.after hq
      obtain ⟨t, rfl⟩ := rz
      refine wpAny_pure (wpAny_bind (wpAny_holding (wpAny_pure (wpAny_bind (wpAny_letGo ?_)))))
      show wpAny _ _ (if n < 0 then _ else _) _ _ _
      rw [if_neg (by omega)]
      show wpAny _ _ (if n ≥ 2 ^ 63 then _ else _) _ _ _
      rw [if_neg (by omega)]
      exact wpAny_bind (wpAny_mkInt (wpAny_pure ⟨_, rfl, .int n, H', I'.tok _, ⟨_, rfl⟩, qq⟩))
    | next => exact False.elim hq
    | brk => exact False.elim hq
    | cont => exact False.elim hq
def lenInt : D → Mem → R D := fun r M => match r with
  | .int n => if 0 ≤ n ∧ n < 2 ^ 63 then .ok (.int n) M else .no
  | _ => .no
def xLenO (x : Str) (fn : Fn) (fa : XA) : XE := fun η M => (fa η M).bind fun ds M1 => match ds with
  | [d] => match asIns M1 d with
    | some (y, _) => if y = x then (fn [d] M1).bind lenInt else .no
    | none => .no
  | _ => .no
/-- an own special method of the class x -/
structure SpD (P : Program) (w : World) (K : PySem.W.Frag) (mg : Str → Option Value) (base : Heap) (k : Nat) (x m : Str) (n : Nat) (f : Fn) : Prop where
  ex : ∃ (C a : Addr) (fd : FuncData) (ps : List Str), PySem.W.nsIn K mainGlobals x = some (some (.ref C)) ∧ PySem.W.findIn K (.ref C) m = some (some (.ref a)) ∧ PySem.W.isFn K (.ref a) = true ∧ FnOk P w K mg base CX0 k a fd ps (spF K mg n f) ∧ Binds K fd ps []
theorem de_lenO {k : Nat} {x : Str} {fn : Fn} {p : Pos} (G : SpD X.prog X.w X.K X.mg X.base k x "__len__" 1 fn) (hr : Room (k + 1) X.A) (hg : Gl X "len") (hm : X.mg "len" = none) (ha : DA X W (e :: es) fa) (hs : starEach (e :: es) X.env = (false, eval e X.env) :: starEach es X.env := by rfl) (hp : (backTo pos (starEach es X.env)).any (·.1) = false := by rfl) :
    DE X W (.Call (.Name "len" p) (e :: es) [] pos) (xLenO x fn fa) := by
  obtain ⟨C, g, fd, ps, hC, hf, hi, Fo, hb⟩ := G.ex
  refine PE.imp (pe_callB (call_lenO Fo hf hi hb hr) hg hm bt_len ha (by decide) (by decide) hs hp) fun σ H Q z => ?_
  obtain ⟨η, F, B, ρ, M, er, m, w⟩ := z
  refine ⟨η, F, B, ρ, M, er, m, w.bind fun ds M1 B1 ρ1 H1 l1 m1 w1 vs rv => ?_⟩
  split at w1
  · next d =>
    split at w1
    · next y fs hi =>
      split at w1
      · next hy =>
        subst hy
        cases rv with
        | cons r rr =>
          cases rr
          obtain ⟨a, C', dx, gs, rfl, hc, hH, pr⟩ := asIns_snd m1 r hi
          rw [hC] at hc
          cases hc
          refine ⟨a, dx, gs, rfl, hH, _, [d], F, B1, ρ1, M1, rfl, .cons r .nil, m1, w1.bind fun r0 M2 B2 ρ2 H2 l2 m2 w2 v rv' => ?_⟩
          unfold lenInt at w2
          split at w2
          · next n =>
            split at w2
            · next hn =>
              cases rv'
              exact ⟨n, rfl, hn.1, hn.2, Wp.ret w2 m2 _ (.int n)⟩
            · exact w2.elim
          · exact w2.elim
      · exact w1.elim
    · exact w1.elim
  · exact w1.elim
end
end Dn
namespace Dn
open PySem PyProof.Rows L2 Evl PySem.Spec
/-! ### list(xs) that may change -/
section
variable {X : Cx} {W : WX} {e : Expr} {es : List Expr} {fa : XA} {pos : Pos}
def xListM (fa : XA) : XE := fun η M => (fa η M).bind fun ds M1 => match bList M1 ds with
  | some (.lst cs) => .ok (.ptr M1.length) (M1 ++ [.lst cs])
  | _ => .no
theorem de_listM {p : Pos} (hg : Gl X "list") (hm : X.mg "list" = none) (ha : DA X W (e :: es) fa) (hs : starEach (e :: es) X.env = (false, eval e X.env) :: starEach es X.env := by rfl) (hp : (backTo pos (starEach es X.env)).any (·.1) = false := by rfl) :
    DE X W (.Call (.Name "list" p) (e :: es) [] pos) (xListM fa) := PE.imp (pe_callTy call_list_of hg hm bt_list ha (by decide) (by decide) hs hp) fun σ H Q z => by
  obtain ⟨η, F, B, ρ, M, er, m, w⟩ := z
  refine ⟨η, F, B, ρ, M, er, m, w.bind fun ds M1 B1 ρ1 H1 l1 m1 w1 vs rv => ?_⟩
  split at w1
  · next cs hb =>
    obtain ⟨d, rfl, h⟩ := one_some hb
    cases rv with
    | cons r rr =>
      cases rr
      split at h
      · next es he =>
        obtain rfl := D.lst.inj (Option.some.inj h)
        obtain ⟨a, vs, rfl, hs, rs⟩ := asL_snd m1 r he
        exact ⟨a, vs, rfl, .inl hs, putM m1 rs w1⟩
      · cases h2 : asT d with
        | none => simp [h2] at h
        | some es =>
          simp [h2] at h
          subst h
          obtain ⟨a, vs, rfl, hs, rs⟩ := asT_snd m1 r h2
          exact ⟨a, vs, rfl, .inr hs, putM m1 rs w1⟩
  · exact w1.elim
end
/-! ### a def whose parameters have defaults -/
theorem fnD_okE {P : Program} {w : World} {K : PySem.W.Frag} {mg : Str → Option Value} {base : Heap} {x qual : Str} {st : Stmt} {dvs : List V} {kws : List (Str × V)} {f : Addr} {fd : FuncData} {N ps : List Str} {k n m lv : Nat} {body : XS} {fF : Fn} (F : FunD K x qual (defArgs st) (defBody st) (defScope st) dvs kws f fd) (S : FnScope N ps (defScope st))
    (hf : fF = callB n m body) (hn : ps.length = n) (hm : N.length = m) (hlv : lv = k + 1)
    (hb : ∀ (cdv : Value) (A : Around) (outer : List Env) (s : Shared) (H : Hp) (E : XK) (W : WX), Room k (A.deeper (envOfC qual (defScope st) s.heap.objs.size f cdv)) → DSs (cxOf CX0 P w K mg base N qual (defScope st) f cdv A outer s H E).nox W (defBody st) body) :
    FnOk P w K mg base CX0 lv f fd ps (spF K mg n fF) := by
  subst hf hn hm hlv
  refine F.ok S (fun vs H Q E h => ?_) (fun cdv A outer s H vs Q E hr h => ?_)
  · obtain ⟨_, ds, _, _, _, _, hl, r, _⟩ := h
    rw [← r.len]
    exact hl
  · obtain ⟨U, ds, Fr, B, ρ, M, hl, r, mm, wp⟩ := h
    refine ⟨_, (hb cdv A outer s H E (fun c d _ H => U c d H) hr).nox, ?_⟩
    have e := er_start (N := N) r
    rw [hl] at e
    refine ⟨_, Fr, B, ρ, M, e, mm, ?_⟩
    unfold callB at wp
    rw [if_pos hl] at wp
    exact wp.bind fun fl M1 B1 ρ1 H1 l1 m1 w1 => by
      cases fl with
      | nx η' => exact fun σ' _ => Wp.ret w1 m1 _ .non
      | rt d => exact fun v rv => Wp.ret w1 m1 v rv
      | bk η' => exact w1.elim
      | ct η' => exact w1.elim
end Dn

/-! DnZipS: zip(a, b, strict=True) of two tuples of one length; zip of three tuples of one length -/
namespace Dn
open PySem PySem.Spec PyProof.Rows L2 Evl
abbrev IsZipS (h : Heap) (z TI TO : Addr) (f0 : Value) : Prop :=
  h.get? z = some { cls := .type "zip", data := .fields #[f0, .bool false, .bool true, .ref TI, .ref TO] }
section
variable {prog : Program} {w : World} {A : Around} {E : Value → Shared → Prop} {s : Shared} {z TI TO i1 i2 l1 l2 : Addr} {k1 k2 : Nat} {xs ys : Array Value} {T1 T2 : Heap → Nat → Prop} {L1 L2 : Heap → Prop} {a b : Value}
theorem noe_item {x : Value} {Q : Option Value → Shared → Prop} (N1 : Nx i1 l1 xs T1 L1) (h1 : T1 s.heap k1) (hl : L1 s.heap) (hx : xs[k1]? = some x) (hQ : ∀ h', T1 h' (k1 + 1) → Heap.SameBut i1 s.heap h' → Q (some x) { s with heap := h' }) :
    wpAny (model prog w) A (Builtin.SmallTypes.nextOrEnd (.ref i1)) Q E s := by
  unfold Builtin.SmallTypes.nextOrEnd
  exact wpAny_bind (wpAny_attempt (N1.item h1 hl hx fun h' t sb => wpAny_pure (hQ h' t sb)))
theorem noe_end {Q : Option Value → Shared → Prop} (N1 : Nx i1 l1 xs T1 L1) (hh : A.handled = none) (h1 : T1 s.heap k1) (hl : L1 s.heap) (hx : xs[k1]? = none) (hQ : ∀ h', Heap.ExtBut i1 s.heap h' → Q none { s with heap := h' }) :
    wpAny (model prog w) A (Builtin.SmallTypes.nextOrEnd (.ref i1)) Q E s := by
  unfold Builtin.SmallTypes.nextOrEnd
  refine wpAny_bind (wpAny_attempt (N1.fin hh h1 hl hx fun h' e sb he => ?_))
  obtain ⟨o, ho, hc⟩ := he
  refine wpAny_bind (wpAny_isInstance (T := "StopIteration") (b := true) ⟨o, ho, hc⟩ isSubtype_stop ?_)
  exact wpAny_pure (hQ h' sb)
theorem stop_now {Q : PySem.Fin → Shared → Prop} (hh : A.handled = none) (hE : ∀ h' e, (∀ c o, s.heap.get? c = some o → h'.get? c = some o) → (∃ o, h'.get? e = some o ∧ o.cls = .type "StopIteration") → E (.ref e) { s with heap := h' }) :
    wpAny (model prog w) A (Builtin.SmallTypes.stopIteration : Sem PySem.Fin) Q E s := by
  show wpAny _ _ (newExc (.type "StopIteration") [] >>= _) _ _ _
  refine wpAny_bind ?_
  simp only [newExc, newTuple]
  refine wpAny_bind (wpAny_newObj_type ?_ (by size_fits))
  refine wpAny_bind (m := firstArgMember _ _) (wpAny_of_eq (a := Value.none) (by first | rfl | (simp only [firstArgMember]; rfl)) ?_)
  refine wpAny_newObj_type ?_ (by size_fits)
  simp only [raiseNew]
  refine wpAny_bind (wpAny_handled ?_)
  first | rw [show A.in1.handled = none from hh] | rw [hh]
  refine wpAny_bind (wpAny_pure (wpAny_throw ?_))
  exact hE _ _ (fun c o q => Heap.get?_push_of_some _ (Heap.get?_push_of_some _ q)) ⟨_, Heap.get?_push_size _ rfl, rfl⟩
theorem zipS_item {x y : Value} {Q : Value → Shared → Prop} (N1 : Nx i1 l1 xs T1 L1) (N2 : Nx i2 l2 ys T2 L2) (D : ZipApart z TI TO i1 i2 l1 l2)
    (hz : IsZipS s.heap z TI TO .none) (hTI : IsPair s.heap TI (.ref i1) (.ref i2)) (hTO : IsPair s.heap TO a b) (h1 : T1 s.heap k1) (h2 : T2 s.heap k2) (hl1 : L1 s.heap) (hl2 : L2 s.heap) (hx : xs[k1]? = some x) (hy : ys[k2]? = some y)
    (hQ : ∀ h', IsZipS h' z TI TO (rawInt s.heap.objs.size) → IsPair h' TO x y → T1 h' (k1 + 1) → T2 h' (k2 + 1) → IsPair h' s.heap.objs.size x y → h'.objs.size = s.heap.objs.size + 1 →
      (∀ c o, c ≠ z → c ≠ TO → c ≠ i1 → c ≠ i2 → s.heap.get? c = some o → h'.get? c = some o) → Q (.ref s.heap.objs.size) { s with heap := h' }) :
    wpAny (model prog w) A (Builtin.«zip.__next__» ⟨[.ref z], []⟩) (fun fin s' => ∃ v, fin = .done (.ret v) ∧ Q v s') E s := by
  show wpAny _ _ (field (.ref z) 2 >>= _) _ _ _
  refine wpAny_bind (wpAny_field hz rfl (x := .bool true) rfl ?_)
  show wpAny _ _ (field (.ref z) 3 >>= _) _ _ _
  refine wpAny_bind (wpAny_field hz rfl (x := .ref TI) rfl ?_)
  refine wpAny_bind (wpAny_seqItems hTI rfl ?_)
  show wpAny _ _ (Builtin.SmallTypes.ownedTupleIsFree (.ref z) >>= _) _ _ _
  refine wpAny_bind ?_
  unfold Builtin.SmallTypes.ownedTupleIsFree
  refine wpAny_bind (wpAny_field hz rfl (x := .none) rfl (wpAny_pure ?_))
  simp only [if_true]
  refine wpAny_bind (wpAny_rule ?_)
  refine wpAny_bind (wpAny_field hz rfl (x := .ref TO) rfl ?_)
  refine wpAny_bind (wpAny_setField_rec hz (by simp) fun g1 zg1 sg1 => ?_)
  replace zg1 : IsZipS g1 z TI TO .ellipsis := zg1
  refine wpAny_bind ?_
  simp only [List.zipIdx_cons, List.zipIdx_nil, List.forIn_cons, List.forIn_nil]
  refine wpAny_bind (wpAny_bind (wpAny_onRaise ?_))
  show wpAny _ _ (Builtin.SmallTypes.nextOrEnd (.ref i1)) _ _ _
  refine (noe_item N1 (N1.kT h1 fun o e => sg1.extBut _ _ D.i1z e) (N1.kL hl1 fun o e => sg1.extBut _ _ D.l1z e) hx fun g2 t1 sg2 => ?_)
  have p2 : IsPair g2 TO a b := sg2.extBut _ _ D.TOi1 (sg1.extBut _ _ D.TOz hTO)
  refine wpAny_bind (wpAny_seqItems p2 rfl ?_)
  refine wpAny_bind (wpAny_updateSeq_pair p2 fun g3 p3 sg3 => ?_)
  replace p3 : IsPair g3 TO x b := p3
  refine wpAny_bind (wpAny_letGo (wpAny_pure ?_))
  refine wpAny_bind (wpAny_bind (wpAny_onRaise ?_))
  show wpAny _ _ (Builtin.SmallTypes.nextOrEnd (.ref i2)) _ _ _
  refine (noe_item N2 (N2.kT h2 fun o e => sg3.extBut _ _ D.TOi2.symm (sg2.extBut _ _ D.i12.symm (sg1.extBut _ _ D.i2z e))) (N2.kL hl2 fun o e => sg3.extBut _ _ D.l2TO (sg2.extBut _ _ D.l2i1 (sg1.extBut _ _ D.l2z e))) hy fun g4 t2 sg4 => ?_)
  have p4 : IsPair g4 TO x b := sg4.extBut _ _ D.TOi2 p3
  refine wpAny_bind (wpAny_seqItems p4 rfl ?_)
  refine wpAny_bind (wpAny_updateSeq_pair p4 fun g5 p5 sg5 => ?_)
  replace p5 : IsPair g5 TO x y := p5
  refine wpAny_bind (wpAny_letGo (wpAny_pure (wpAny_pure ?_)))
  refine wpAny_bind (wpAny_seqItems p5 rfl ?_)
  refine wpAny_bind (wpAny_newTuple ?_)
  have hsz : g5.objs.size = s.heap.objs.size := by rw [sg5.1, sg4.1, sg3.1, sg2.1, sg1.1]
  have z5 : IsZipS g5 z TI TO .ellipsis := sg5.extBut _ _ D.TOz.symm (sg4.extBut _ _ D.i2z.symm (sg3.extBut _ _ D.TOz.symm (sg2.extBut _ _ D.i1z.symm zg1)))
  have kp : ∀ c o, c ≠ z → c ≠ TO → c ≠ i1 → c ≠ i2 → s.heap.get? c = some o → g5.get? c = some o := fun c o c1 c2 c3 c4 e =>
    sg5.extBut _ _ c2 (sg4.extBut _ _ c4 (sg3.extBut _ _ c2 (sg2.extBut _ _ c3 (sg1.extBut _ _ c1 e))))
  have u1 : T1 g5 (k1 + 1) := N1.kT t1 fun o e => sg5.extBut _ _ D.TOi1.symm (sg4.extBut _ _ D.i12 (sg3.extBut _ _ D.TOi1.symm e))
  have u2 : T2 g5 (k2 + 1) := N2.kT t2 fun o e => sg5.extBut _ _ D.TOi2.symm e
  have hzlt : z < g5.objs.size := Heap.lt_size z5
  show wpAny _ _ (Builtin.SmallTypes.ownedTupleHandOut (.ref z) (.ref g5.objs.size) >>= _) _ _ _
  refine wpAny_bind ?_
  unfold Builtin.SmallTypes.ownedTupleHandOut
  have z6 : IsZipS (g5.push { cls := .type "tuple", data := .seq #[x, y] }) z TI TO .ellipsis := Heap.get?_push_of_some _ z5
  refine wpAny_bind (wpAny_setField_rec z6 (by simp) fun g7 z7 sg7 => ?_)
  replace z7 : IsZipS g7 z TI TO (rawInt g5.objs.size) := z7
  refine wpAny_setField_rec z7 (by simp) fun g8 z8 sg8 => ?_
  replace z8 : IsZipS g8 z TI TO (rawInt g5.objs.size) := z8
  have up : ∀ c o, c ≠ z → g5.get? c = some o → g8.get? c = some o := fun c o c1 e => sg8.extBut _ _ c1 (sg7.extBut _ _ c1 (Heap.get?_push_of_some _ e))
  have pT : IsPair g8 g5.objs.size x y := sg8.extBut _ _ (Nat.ne_of_gt hzlt) (sg7.extBut _ _ (Nat.ne_of_gt hzlt) (Heap.get?_push_size _ rfl))
  have sz8 : g8.objs.size = g5.objs.size + 1 := by rw [sg8.1, sg7.1, Heap.size_push]
  rw [hsz] at z8 pT sz8
  refine wpAny_pure ⟨_, rfl, ?_⟩
  show Q (.ref g5.objs.size) _
  rw [hsz]
  exact hQ g8 z8 (up _ _ D.TOz p5) (N1.kT u1 fun o e => up _ o D.i1z e) (N2.kT u2 fun o e => up _ o D.i2z e) pT sz8 fun c o c1 c2 c3 c4 e => up c o c1 (kp c o c1 c2 c3 c4 e)
theorem zipS_end {Q : PySem.Fin → Shared → Prop} (N1 : Nx i1 l1 xs T1 L1) (N2 : Nx i2 l2 ys T2 L2) (hh : A.handled = none) (D : ZipApart z TI TO i1 i2 l1 l2)
    (hz : IsZipS s.heap z TI TO .none) (hTI : IsPair s.heap TI (.ref i1) (.ref i2)) (hTO : IsPair s.heap TO a b) (h1 : T1 s.heap k1) (h2 : T2 s.heap k2) (hl1 : L1 s.heap) (hl2 : L2 s.heap) (hx : xs[k1]? = none) (hy : ys[k2]? = none)
    (hE : ∀ h' e, (∀ c o, c ≠ z → c ≠ TO → c ≠ i1 → c ≠ i2 → s.heap.get? c = some o → h'.get? c = some o) → (∃ o, h'.get? e = some o ∧ o.cls = .type "StopIteration") → E (.ref e) { s with heap := h' }) :
    wpAny (model prog w) A (Builtin.«zip.__next__» ⟨[.ref z], []⟩) Q E s := by
  show wpAny _ _ (field (.ref z) 2 >>= _) _ _ _
  refine wpAny_bind (wpAny_field hz rfl (x := .bool true) rfl ?_)
  show wpAny _ _ (field (.ref z) 3 >>= _) _ _ _
  refine wpAny_bind (wpAny_field hz rfl (x := .ref TI) rfl ?_)
  refine wpAny_bind (wpAny_seqItems hTI rfl ?_)
  show wpAny _ _ (Builtin.SmallTypes.ownedTupleIsFree (.ref z) >>= _) _ _ _
  refine wpAny_bind ?_
  unfold Builtin.SmallTypes.ownedTupleIsFree
  refine wpAny_bind (wpAny_field hz rfl (x := .none) rfl (wpAny_pure ?_))
  simp only [if_true]
  refine wpAny_bind (wpAny_rule ?_)
  refine wpAny_bind (wpAny_field hz rfl (x := .ref TO) rfl ?_)
  refine wpAny_bind (wpAny_setField_rec hz (by simp) fun g1 zg1 sg1 => ?_)
  replace zg1 : IsZipS g1 z TI TO .ellipsis := zg1
  refine wpAny_bind ?_
  simp only [List.zipIdx_cons, List.zipIdx_nil, List.forIn_cons, List.forIn_nil]
  refine wpAny_bind (wpAny_bind (wpAny_onRaise ?_))
  show wpAny _ _ (Builtin.SmallTypes.nextOrEnd (.ref i1)) _ _ _
  refine (noe_end N1 hh (N1.kT h1 fun o e => sg1.extBut _ _ D.i1z e) (N1.kL hl1 fun o e => sg1.extBut _ _ D.l1z e) hx fun g2 sg2 => ?_)
  have z2 : IsZipS g2 z TI TO .ellipsis := sg2 _ _ D.i1z.symm zg1
  refine wpAny_bind (wpAny_setField_rec z2 (by simp) fun g3 _ sg3 => ?_)
  refine wpAny_bind ?_
  show wpAny _ _ (forIn [((Value.ref i2), 1)] _ _ >>= _) _ _ _
  simp only [List.forIn_cons, List.forIn_nil]
  refine wpAny_bind (wpAny_bind (wpAny_bind ?_))
  refine noe_end N2 hh (N2.kT h2 fun o e => sg3.extBut _ _ D.i2z (sg2 _ _ D.i12.symm (sg1.extBut _ _ D.i2z e))) (N2.kL hl2 fun o e => sg3.extBut _ _ D.l2z (sg2 _ _ D.l2i1 (sg1.extBut _ _ D.l2z e))) hy fun g4 sg4 => ?_
  refine wpAny_pure (wpAny_pure (wpAny_bind (wpAny_rule (stop_now hh fun g5 e k5 he => hE g5 e (fun c o c1 c2 c3 c4 q => ?_) he))))
  exact k5 _ _ (sg4 _ _ c4 (sg3.extBut _ _ c1 (sg2 _ _ c3 (sg1.extBut _ _ c1 q))))
theorem nextS_item {x y : Value} {Q : Option Value → Shared → Prop} (N1 : Nx i1 l1 xs T1 L1) (N2 : Nx i2 l2 ys T2 L2) (D : ZipApart z TI TO i1 i2 l1 l2)
    (hz : IsZipS s.heap z TI TO .none) (hTI : IsPair s.heap TI (.ref i1) (.ref i2)) (hTO : IsPair s.heap TO a b) (h1 : T1 s.heap k1) (h2 : T2 s.heap k2) (hl1 : L1 s.heap) (hl2 : L2 s.heap) (hx : xs[k1]? = some x) (hy : ys[k2]? = some y)
    (hQ : ∀ h', IsZipS h' z TI TO (rawInt s.heap.objs.size) → IsPair h' TO x y → T1 h' (k1 + 1) → T2 h' (k2 + 1) → IsPair h' s.heap.objs.size x y → h'.objs.size = s.heap.objs.size + 1 →
      (∀ c o, c ≠ z → c ≠ TO → c ≠ i1 → c ≠ i2 → s.heap.get? c = some o → h'.get? c = some o) → Q (some (.ref s.heap.objs.size)) { s with heap := h' }) :
    wpAny (model prog w) A (pyNext (.ref z)) Q E s := by
  have hT : s.TypeIs (.ref z) "zip" := ⟨_, hz, rfl⟩
  unfold pyNext
  exact wpAny_bind (wpAny_attempt (wpAny_callSpecial?_slot (name := Str.ofString "__next__") hT F.slot_zip_next
    (wpAny_call_entry F.slot_zip_next hT F.entry_zip_next
      (zipS_item N1 N2 D hz hTI hTO h1 h2 hl1 hl2 hx hy fun h' a1 a2 a3 a4 a5 a6 a7 => wpAny_pure (hQ h' a1 a2 a3 a4 a5 a6 a7)) (F.args_zip_next_1 _))))
theorem nextS_end {Q : Option Value → Shared → Prop} (N1 : Nx i1 l1 xs T1 L1) (N2 : Nx i2 l2 ys T2 L2) (hh : A.handled = none) (D : ZipApart z TI TO i1 i2 l1 l2)
    (hz : IsZipS s.heap z TI TO .none) (hTI : IsPair s.heap TI (.ref i1) (.ref i2)) (hTO : IsPair s.heap TO a b) (h1 : T1 s.heap k1) (h2 : T2 s.heap k2) (hl1 : L1 s.heap) (hl2 : L2 s.heap) (hx : xs[k1]? = none) (hy : ys[k2]? = none)
    (hQ : ∀ h', (∀ c o, c ≠ z → c ≠ TO → c ≠ i1 → c ≠ i2 → s.heap.get? c = some o → h'.get? c = some o) → Q none { s with heap := h' }) : wpAny (model prog w) A (pyNext (.ref z)) Q E s := by
  have hT : s.TypeIs (.ref z) "zip" := ⟨_, hz, rfl⟩
  unfold pyNext
  refine wpAny_bind (wpAny_attempt (wpAny_callSpecial?_slot (name := Str.ofString "__next__") hT F.slot_zip_next
    (wpAny_call_entry F.slot_zip_next hT F.entry_zip_next (zipS_end N1 N2 hh D hz hTI hTO h1 h2 hl1 hl2 hx hy fun h' e hk he => ?_) (F.args_zip_next_1 _))))
  obtain ⟨o, ho, hc⟩ := he
  refine wpAny_bind (wpAny_isInstance (T := "StopIteration") (b := true) ⟨o, ho, hc⟩ isSubtype_stop ?_)
  exact wpAny_pure (hQ _ hk)
theorem go_zipS {elts : List Expr} {x1} {pos : Pos} {T : Addr} {Q : Unit → Shared → Prop} (hz : IsZipS s.heap z TI TO (rawInt T)) (hQ : ∀ h', IsZipS h' z TI TO .none → Heap.SameBut z s.heap h' → Q () { s with heap := h' }) :
    wpAny (model prog w) A (letOwnedTupleGo (.Tuple elts x1 pos) (.ref z) (.ref T)) Q E s := by
  unfold letOwnedTupleGo
  refine wpAny_bind (wpAny_load hz ?_)
  show wpAny _ _ (if (["enumerate", "zip", "dict_itemiterator", "dict_reverseitemiterator", "odict_iterator", "itertools.zip_longest", "itertools.pairwise"].contains "zip" &&
      (#[rawInt T, .bool false, .bool true, .ref TI, .ref TO] : Array Value)[0]? == some (rawInt T)) = true then _ else _) Q E s
  rw [if_pos (by simp)]
  refine wpAny_bind (wpAny_rule ?_)
  show wpAny _ _ (setField (.ref z) 0 .none) _ _ _
  exact wpAny_setField_rec hz (by simp) hQ
theorem iter_zipS {f0 : Value} {Q : Value → Shared → Prop} (hz : IsZipS s.heap z TI TO f0) (h : Q (.ref z) s) : wpAny (model prog w) A (pyIter (.ref z)) Q E s := by
  have hT : s.TypeIs (.ref z) "zip" := ⟨_, hz, rfl⟩
  refine wpAny_pyIter_slot hT F.slot_zip_iter (wpAny_call_entry F.slot_zip_iter hT F.entry_zip_iter ?_ (F.args_zip_iter_1 _))
  show wpAny _ _ (ret (.ref z)) _ _ _
  exact wpAny_pure ⟨_, rfl, "zip", _, hT, F.slot_zip_next.lookup, h⟩
end
abbrev zs1 (h : Heap) (l1 : Addr) : Heap := h.push { cls := .type "tuple_iterator", data := .fields #[.ref l1, .int 0 0] }
abbrev zs2 (h : Heap) (l1 l2 : Addr) : Heap := (zs1 h l1).push { cls := .type "tuple_iterator", data := .fields #[.ref l2, .int 0 0] }
abbrev zs3 (h : Heap) (l1 l2 : Addr) : Heap := (zs2 h l1 l2).push { cls := .type "tuple", data := .seq #[.ref h.objs.size, .ref (zs1 h l1).objs.size] }
abbrev zs4 (h : Heap) (l1 l2 : Addr) : Heap := (zs3 h l1 l2).push { cls := .type "tuple", data := .seq #[.none, .none] }
abbrev zs5 (h : Heap) (l1 l2 : Addr) : Heap := (zs4 h l1 l2).push { cls := .type "zip", data := .fields #[.none, .bool false, .bool true, .ref (zs2 h l1 l2).objs.size, .ref (zs3 h l1 l2).objs.size] }
theorem meets_zs_new (l1 l2 : Addr) (xs ys : Array Value) :
    Meets (Builtin.«zip.__new__» ⟨[.type "zip", .ref l1, .ref l2], [(Str.ofString "strict", .bool true)]⟩) (fun _ R s => s.heap.IsTuple l1 xs ∧ s.heap.IsTuple l2 ys ∧
      R (.ok (.ret (.ref (zs4 s.heap l1 l2).objs.size))) { s with heap := zs5 s.heap l1 l2 }) :=
  .of_wp fun prog w A R s h => by
    obtain ⟨hp, g, d, tk, os⟩ := s; obtain ⟨hl1, hl2, h⟩ := h
    have hsub := sub_zip
    have hL1 : Heap.IsTuple (Shared.heap ⟨hp, g, d, tk, os⟩) l1 xs := hl1
    have hL2 : Heap.IsTuple (Shared.heap ⟨hp.push { cls := .type "tuple_iterator", data := .fields #[.ref l1, .int 0 0] }, g, d, tk, os⟩) l2 ys := Heap.IsTuple.push hl2 _
    have e1 : (Str.ofString "strict" != ("strict" : Str)) = false := by decide +kernel
    wp_walk using wpAny_pyIter_tuple hL1, wpAny_pyIter_tuple hL2
    exact ⟨_, rfl, h⟩
theorem tc_zipS (a b c : Value) : checkTypeCall "zip" ⟨[a, b], [(Str.ofString "strict", c)]⟩ = pure () := by kernel_rfl
theorem nc_zipS (a b c : Value) : checkBuiltinCall "zip.__new__" ⟨[.type "zip", a, b], [(Str.ofString "strict", c)]⟩ = pure () := by kernel_rfl
theorem ai_zipS (obj a b c : Value) : argsOk "object.__init__" ⟨[obj, a, b], [(Str.ofString "strict", c)]⟩ := by unfold argsOk; kernel_rfl
section
variable {prog : Program} {w : World} {A : Around} {E : Value → Shared → Prop} {s : Shared}
theorem call_zs {l1 l2 : Addr} {xs ys : Array Value} {Q : Value → Shared → Prop} (hl1 : s.heap.IsTuple l1 xs) (hl2 : s.heap.IsTuple l2 ys)
    (h : ∀ h', IsZipS h' (s.heap.objs.size + 4) (s.heap.objs.size + 2) (s.heap.objs.size + 3) .none → IsPair h' (s.heap.objs.size + 2) (.ref s.heap.objs.size) (.ref (s.heap.objs.size + 1)) →
      IsPair h' (s.heap.objs.size + 3) .none .none → h'.IsTupleIter s.heap.objs.size l1 0 → h'.IsTupleIter (s.heap.objs.size + 1) l2 0 → (∀ c o, s.heap.get? c = some o → h'.get? c = some o) → Q (.ref (s.heap.objs.size + 4)) { s with heap := h' }) :
    wpAny (model prog w) A (call (.type "zip") [.ref l1, .ref l2] [(Str.ofString "strict", .bool true)]) Q E s := by
  refine callType_newKw F.called_zip (by decide) (tc_zipS _ _ _) (nc_zipS _ _ _) (fun obj => ai_zipS obj _ _ _) F.entry_zip_new (meets_zs_new l1 l2 xs ys) ⟨hl1, hl2, ?_⟩
  have z1 : (zs1 s.heap l1).objs.size = s.heap.objs.size + 1 := Heap.size_push ..
  have z2 : (zs2 s.heap l1 l2).objs.size = s.heap.objs.size + 2 := by rw [Heap.size_push, z1]
  have z3 : (zs3 s.heap l1 l2).objs.size = s.heap.objs.size + 3 := by rw [Heap.size_push, z2]
  have z4 : (zs4 s.heap l1 l2).objs.size = s.heap.objs.size + 4 := by rw [Heap.size_push, z3]
  have up : ∀ {h : Heap} {c : Addr} {o o' : Obj}, h.get? c = some o → (h.push o').get? c = some o := fun e => Heap.get?_push_of_some _ e
  have g5 : (zs5 s.heap l1 l2).get? (zs4 s.heap l1 l2).objs.size = some _ := Heap.get?_push_size _ rfl
  have g4 : (zs5 s.heap l1 l2).get? (zs3 s.heap l1 l2).objs.size = some _ := up (Heap.get?_push_size _ rfl)
  have g3 : (zs5 s.heap l1 l2).get? (zs2 s.heap l1 l2).objs.size = some _ := up (up (Heap.get?_push_size _ rfl))
  have g2 : (zs5 s.heap l1 l2).get? (zs1 s.heap l1).objs.size = some _ := up (up (up (Heap.get?_push_size _ rfl)))
  have g1 : (zs5 s.heap l1 l2).get? s.heap.objs.size = some _ := up (up (up (up (Heap.get?_push_size _ rfl))))
  show _ ∧ _
  rw [z2, z3, z4] at g5
  rw [z1, z2] at g3
  rw [z3] at g4
  rw [z1] at g2
  rw [z4]
  exact ⟨⟨_, g5, rfl⟩, h _ g5 g3 g4 ⟨_, g1, rfl, rfl⟩ ⟨_, g2, rfl, rfl⟩ fun c o x => up (up (up (up (up x))))⟩
end
/-- two tuples of one length as they stand at each turn -/
def ItzS (K : PySem.W.Frag) (a b : Addr) : It :=
  ⟨fun i H => ∃ (xs ys : List V) (x y : V), SqT K H a xs ∧ SqT K H b ys ∧ xs[i]? = some x ∧ ys[i]? = some y,
    fun i H v H' => ∃ T x y, v = .ref T ∧ H T = none ∧ H' = upd H T (.tup [x, y]) ∧ (∀ xs, SqT K H a xs → xs[i]? = some x) ∧ ∀ ys, SqT K H b ys → ys[i]? = some y,
    fun i H => ∃ xs ys : List V, SqT K H a xs ∧ SqT K H b ys ∧ xs.length ≤ i ∧ ys.length ≤ i⟩
theorem turn_zs {P : Program} {w : World} {K : PySem.W.Frag} {elts : List Expr} {kk : Nat} {tpos : Pos} {a b z TI TO i1 i2 : Addr} (D : ZipApart z TI TO i1 i2 a b) :
    Turn P w K (.Tuple elts kk tpos) (ItzS K a b) [z, TI, TO, i1, i2] z (fun i h => IsZipS h z TI TO .none ∧ IsPair h TI (.ref i1) (.ref i2) ∧ (∃ x y, IsPair h TO x y) ∧ h.IsTupleIter i1 a i ∧ h.IsTupleIter i2 b i) where
  mem := by simp
  obj := fun i h st c hc => by
    obtain ⟨hz, hTI, ⟨x, y, hTO⟩, ⟨o1, e1, _, d1⟩, ⟨o2, e2, _, d2⟩⟩ := st
    have e' : c = z ∨ c = TI ∨ c = TO ∨ c = i1 ∨ c = i2 := by simpa using hc
    rcases e' with q | q | q | q | q
    · rw [q]; exact ⟨_, hz, fun v q => nomatch q⟩
    · rw [q]; exact ⟨_, hTI, fun v q => nomatch q⟩
    · rw [q]; exact ⟨_, hTO, fun v q => nomatch q⟩
    · rw [q]; exact ⟨o1, e1, fun v q => by rw [d1] at q; cases q⟩
    · rw [q]; exact ⟨o2, e2, fun v q => by rw [d2] at q; cases q⟩
  keep := fun i h h' st k => by
    obtain ⟨hz, hTI, ⟨x, y, hTO⟩, h1, h2⟩ := st
    exact ⟨k z (by simp) _ hz, k TI (by simp) _ hTI, ⟨x, y, k TO (by simp) _ hTO⟩, h1.at fun o q => k i1 (by simp) o q, h2.at fun o q => k i2 (by simp) o q⟩
  item := by
    intro X hP hw hK hc i pins s σ H E I hf st hg
    subst hP hw hK
    obtain ⟨hz, hTI, ⟨x0, y0, hTO⟩, h1, h2⟩ := st
    obtain ⟨xs, ys, x, y, hqx, hqy, hx, hy⟩ := hg
    obtain ⟨its, rv, p, _⟩ := I.tuple hqx
    obtain ⟨its2, rv2, p2, _⟩ := I.tuple hqy
    obtain ⟨u, hu, ru⟩ := rv.get hx
    obtain ⟨u2, hu2, ru2⟩ := rv2.get hy
    have hzl : z < s.heap.objs.size := Heap.lt_size hz
    refine nextS_item nx_tup nx_tup D hz hTI hTO h1 h2 p p2 (x := u) (y := u2) (by simpa using hu) (by simpa using hu2) fun h' z' TO' h1' h2' hT hsz hk => ?_
    refine ⟨_, rfl, go_zipS (s := { s with heap := h' }) z' fun h'' z'' sb => ?_⟩
    have hT2 : h''.get? s.heap.objs.size = some { cls := .type "tuple", data := .seq #[u, u2] } := (sb.2 _ (Nat.ne_of_gt hzl)).trans hT
    have new : ObjOk X.prog X.w (upd H s.heap.objs.size (.tup [x, y])) h'' s.heap.objs.size (.tup [x, y]) :=
      ⟨by show 2 ≤ sizeLine; decide, [u, u2], .cons ru (.cons ru2 .nil), ⟨_, hT2, rfl, _, rfl⟩⟩
    have I1 : Inv X pins σ (upd H s.heap.objs.size (.tup [x, y])) { s with heap := h'' } :=
      I.turnedNew (t' := s.toks) (ch := [z, TI, TO, i1, i2]) (fun c o hb q => (sb.2 c (fun q' => hb (by simp [q']))).trans (hk c o (fun q' => hb (by simp [q'])) (fun q' => hb (by simp [q'])) (fun q' => hb (by simp [q'])) (fun q' => hb (by simp [q'])) q)) hf (Nat.le_refl _) new
    refine ⟨.ref s.heap.objs.size, _, I1, rfl, ⟨_, x, y, rfl, I.hok.fresh (Nat.le_refl _), rfl, fun l hl => by rw [I.tuple_inj hl hqx]; exact hx, fun l hl => by rw [I.tuple_inj hl hqy]; exact hy⟩, ⟨z'', ?_, ⟨u, u2, ?_⟩, ?_, ?_⟩, fun c hcm => ?_⟩
    · exact (sb.2 _ D.TIz).trans (hk _ _ D.TIz D.TITO D.TIi1 D.TIi2 hTI)
    · exact (sb.2 _ D.TOz).trans TO'
    · exact h1'.at fun o q => (sb.2 _ D.i1z).trans q
    · exact h2'.at fun o q => (sb.2 _ D.i2z).trans q
    · have hlt : c < s.heap.objs.size := by
        have e' : c = z ∨ c = TI ∨ c = TO ∨ c = i1 ∨ c = i2 := by simpa using hcm
        rcases e' with q | q | q | q | q
        · rw [q]; exact hzl
        · rw [q]; exact Heap.lt_size hTI
        · rw [q]; exact Heap.lt_size hTO
        · rw [q]; obtain ⟨_, e1, _⟩ := h1; exact Heap.lt_size e1
        · rw [q]; obtain ⟨_, e2, _⟩ := h2; exact Heap.lt_size e2
      rw [upd_ne (Nat.ne_of_lt hlt)]
      exact (hf c hcm).1
  done := by
    intro X hP hw hK hc i pins s σ H E I hf st hg
    subst hP hw hK
    obtain ⟨hz, hTI, ⟨x0, y0, hTO⟩, h1, h2⟩ := st
    obtain ⟨xs, ys, hqx, hqy, hend, hend2⟩ := hg
    obtain ⟨its, rv, p, _⟩ := I.tuple hqx
    obtain ⟨its2, rv2, p2, _⟩ := I.tuple hqy
    have l1 := rv.length
    have l2 := rv2.length
    have he : its.toArray[i]? = none := by simp; omega
    have he2 : its2.toArray[i]? = none := by simp; omega
    exact nextS_end nx_tup nx_tup (I.ok.hd hc) D hz hTI hTO h1 h2 p p2 he he2 fun h' hk => ⟨rfl, I.turnedL (t' := s.toks) (ch := [z, TI, TO, i1, i2]) (fun c o hb q =>
      hk c o (fun q' => hb (by simp [q'])) (fun q' => hb (by simp [q'])) (fun q' => hb (by simp [q'])) (fun q' => hb (by simp [q'])) q) hf⟩
  self := fun A i s Q E st h => iter_zipS st.1 h
section
variable {M : Model} {A : Around} {E : Value → Shared → Prop} {s : Shared} {env : Env}
theorem cw_typeKw {pos : Pos} {T : String} {first : List Value} {args : List (Bool × Sem Value)} {keywords : List (Option Str × Sem Value)} {Q : Value → Shared → Prop} (hplain : args.any (·.1) = false) (hkw : keywords.any (·.1.isNone) = false)
    (h : wpAny M A (evalArgs (.type T) true args keywords) (fun a s₁ => wpAny M A (call (.type T) (first ++ a.pos) a.kw) Q E s₁) E s) : wpAny M A (callWith pos (.type T) first args keywords) Q E s := by
  unfold callWith
  refine wpAny_bind (wpAny_holding (wpAny_mono h (fun a s₁ h₁ => wpAny_bind (wpAny_standAt ?_)) fun _ _ x => x))
  simp only [hplain, hkw, Bool.or_false]
  refine wpAny_bind (wpAny_pure ?_)
  exact wpAny_bind (wpAny_mono h₁ (fun r s₂ hr => wpAny_bind (wpAny_holding (wpAny_point (wpAny_pure hr)))) fun _ _ x => x)
theorem cw_typeKw1 {pos : Pos} {T : String} {e : Expr} {rest : List Expr} {kws : List Keyword} {Q : Value → Shared → Prop}
    (h : wpAny M A (spliced (backTo pos (starEach (e :: rest) env))) (fun vs s₁ => wpAny M A (evalAll ((backToKw pos (keywordEach kws env)).map (·.2))) (fun kvs s₂ => wpAny M A (call (.type T) vs (((backToKw pos (keywordEach kws env)).filterMap (·.1)).zip kvs)) Q E s₂) E s₁) E s)
    (he : backTo pos (starEach (e :: rest) env) = (false, eval e env) :: backTo pos (starEach rest env)) (hplain : (backTo pos (starEach (e :: rest) env)).any (·.1) = false) (hall : (backToKw pos (keywordEach kws env)).all (·.1.isSome) = true) (hkw : (backToKw pos (keywordEach kws env)).any (·.1.isNone) = false) :
    wpAny M A (callWith pos (.type T) [] (backTo pos (starEach (e :: rest) env)) (backToKw pos (keywordEach kws env))) Q E s := by
  refine cw_typeKw hplain hkw ?_
  rw [he] at h ⊢
  exact evalArgs_kwB hall h
end
def iZipS (K : PySem.W.Frag) (ta : TA) : TI := fun σ H R => ta σ H fun vs H1 => ∃ a b xs ys, vs = [.ref a, .ref b] ∧ SqT K H1 a xs ∧ SqT K H1 b ys ∧ R (ItzS K a b) H1
theorem pi_zipS {X : Cx} {e e2 : Expr} {ta : TA} {p pos tpos p3 kp : Pos} {elts : List Expr} {kk k3 : Nat} (hg : Gl X "zip") (hm : X.mg "zip" = none) (ha : PA X [e, e2] ta)
    (he : backTo pos (starEach [e, e2] X.env) = (false, eval e X.env) :: backTo pos (starEach [e2] X.env) := by rfl) (hpl : (backTo pos (starEach [e, e2] X.env)).any (·.1) = false := by rfl)
    (hall : (backToKw pos (keywordEach [⟨some (Str.ofString "strict"), .Constant (.bool true) k3 p3, kp⟩] X.env)).all (·.1.isSome) = true := by rfl) (hnone : (backToKw pos (keywordEach [⟨some (Str.ofString "strict"), .Constant (.bool true) k3 p3, kp⟩] X.env)).any (·.1.isNone) = false := by rfl)
    (hks : (backToKw pos (keywordEach [⟨some (Str.ofString "strict"), .Constant (.bool true) k3 p3, kp⟩] X.env)).filterMap (·.1) = [Str.ofString "strict"] := by rfl) :
    PI X (.Tuple elts kk tpos) (.Call (.Name "zip" p) [e, e2] [⟨some (Str.ofString "strict"), .Constant (.bool true) k3 p3, kp⟩] pos) (iZipS X.K ta) := by
  refine ⟨fun pins s σ H R I h => ?_⟩
  refine wpAny_Call_Name_kw (ld_blt I hg hm PyProof.Rows.boot_zip ?_ (by decide) (by decide))
  refine cw_typeKw1 (thn (ha.run pos pins s σ H _ I h) fun us s1 ⟨vs, H1, I1, r1, q1⟩ => ?_) he hpl hall hnone
  refine kws_cons (PySem.wpAny_Constant_bool (kws_nil ?_))
  rw [hks]
  obtain ⟨a, b, xs, ys, ex, hqx, hqy, q⟩ := q1
  subst ex
  cases r1 with
  | cons r rr =>
    cases rr with
    | cons r' rr =>
      cases rr
      cases r
      cases r'
      obtain ⟨its, rv, p1, _⟩ := I1.tuple hqx
      obtain ⟨its2, rv2, p2, _⟩ := I1.tuple hqy
      obtain ⟨o1, ho1, _⟩ := id p1
      obtain ⟨o2, ho2, _⟩ := id p2
      refine call_zs (show s1.heap.IsTuple a its.toArray from p1) (show s1.heap.IsTuple b its2.toArray from p2) fun h' hz hTI hTO h1 h2 hk => iter_zipS hz ?_
      have I2 : Inv X pins σ H1 { s1 with heap := h' } := I1.kept (t' := s1.toks) hk
      refine ⟨s1.heap.objs.size + 4, [s1.heap.objs.size + 4, s1.heap.objs.size + 2, s1.heap.objs.size + 3, s1.heap.objs.size, s1.heap.objs.size + 1], _, _, H1, rfl, I2, turn_zs (PySem.W.ktu_apart s1.heap.objs.size a b (Heap.lt_size ho1) (Heap.lt_size ho2)), ⟨hz, hTI, ⟨_, _, hTO⟩, h1, h2⟩, fun c hcm => ?_, q⟩
      have hle : s1.heap.objs.size ≤ c := by
        have e' : c = s1.heap.objs.size + 4 ∨ c = s1.heap.objs.size + 2 ∨ c = s1.heap.objs.size + 3 ∨ c = s1.heap.objs.size ∨ c = s1.heap.objs.size + 1 := by simpa using hcm
        rcases e' with q | q | q | q | q <;> rw [q] <;> first | exact Nat.le_add_right _ _ | exact Nat.le_refl _
      exact I1.fpOk hle (I1.hok.fresh hle)
theorem walk_zs {K : PySem.W.Frag} {a b : Addr} {xs ys : List V} (hl : xs.length = ys.length) : Walk (ItzS K a b) (min xs.length ys.length) (fun H => SqT K H a xs ∧ SqT K H b ys) (YPair (fun i => xs[i]?) (fun i => ys[i]?)) := by
  refine ⟨fun i _ hi q => ?_, fun _ q => ⟨xs, ys, q.1, q.2, by omega, by omega⟩, fun i H v H' _ q y => ?_⟩
  · have h1 : i < xs.length := by omega
    have h2 : i < ys.length := by omega
    exact ⟨xs, ys, xs[i], ys[i], q.1, q.2, by simp [h1], by simp [h2]⟩
  · obtain ⟨T, x, z, h1, h2, h3, h4, h5⟩ := y
    exact ⟨T, x, z, h1, h2, h3, h4 xs q.1, h5 ys q.2⟩
section
variable {X : Cx} {W : WX} {e e2 : Expr} {fa : XA}
/-- zip of two tuples, of one length -/
def xZipS (g : XA) : XI := fun η M => (g η M).bind fun ds M1 => match ds with
  | [.tup xs, .tup ys] => if xs.length = ys.length then .ok (xs.zip ys |>.map fun q => .tup [q.1, q.2]) M1 else .no
  | _ => .no
theorem di_zipS {p0 pos tpos p3 kp : Pos} {elts : List Expr} {kk k3 : Nat} (hg : Gl X "zip") (hm : X.mg "zip" = none) (ha : DA X W [e, e2] fa)
    (he : backTo pos (starEach [e, e2] X.env) = (false, eval e X.env) :: backTo pos (starEach [e2] X.env) := by rfl) (hpl : (backTo pos (starEach [e, e2] X.env)).any (·.1) = false := by rfl)
    (hall : (backToKw pos (keywordEach [⟨some (Str.ofString "strict"), .Constant (.bool true) k3 p3, kp⟩] X.env)).all (·.1.isSome) = true := by rfl) (hnone : (backToKw pos (keywordEach [⟨some (Str.ofString "strict"), .Constant (.bool true) k3 p3, kp⟩] X.env)).any (·.1.isNone) = false := by rfl)
    (hks : (backToKw pos (keywordEach [⟨some (Str.ofString "strict"), .Constant (.bool true) k3 p3, kp⟩] X.env)).filterMap (·.1) = [Str.ofString "strict"] := by rfl) :
    DI X W (.Tuple elts kk tpos) (.Call (.Name "zip" p0) [e, e2] [⟨some (Str.ofString "strict"), .Constant (.bool true) k3 p3, kp⟩] pos) (xZipS fa) :=
  PI.imp (pi_zipS hg hm ha he hpl hall hnone hks) fun σ H Q z => by
    obtain ⟨η, F, B, ρ, M, er, m, w⟩ := z
    refine ⟨η, F, B, ρ, M, er, m, w.bind fun ds M1 B1 ρ1 H1 l1 m1 w1 vs rv => ?_⟩
    split at w1
    · next xs ys =>
      by_cases hl : xs.length = ys.length
      · rw [if_pos hl] at w1
        cases rv with
        | cons r rr =>
          cases rr with
          | cons r' rr =>
            cases rr
            cases r with
            | tup e1 q1 =>
              cases r' with
              | tup e2 q2 =>
                exact ⟨_, _, _, _, rfl, ex_t m1.ex e1, ex_t m1.ex e2, Wp.ret w1 m1 _ (walk_pair (walk_zs (by rw [← q1.len, ← q2.len]; exact hl)) (fun H hH => ⟨ex_t hH e1, ex_t hH e2⟩) q1 q2)⟩
      · rw [if_neg hl] at w1
        exact w1.elim
    · exact w1.elim
end
end Dn

/-! DnDEq: == of two dicts whose keys are tuples and whose values are ints -/
namespace Dn
open PySem PySem.Spec PyProof.Rows L2 Evl
section
variable {prog : Program} {w : World} {K : Type} [DecidableEq K] {knd : HeapKind prog w K} {A : Around} {E : Value → Shared → Prop} {s : Shared}
/-- the rows of the one looked up in the other -/
inductive Met (A : Around) (s : Shared) (ys : List (K × Addr × Value)) : List (K × Addr × Value) → Bool → Prop
  | nil : Met A s ys [] true
  | out {x : K × Addr × Value} {r : List (K × Addr × Value)} : atKey ys x.1 = none → Met A s ys (x :: r) false
  | row {x : K × Addr × Value} {p : Addr × Value} {r : List (K × Addr × Value)} {e b : Bool} : atKey ys x.1 = some p → SeqAt.EqAt A s x.2.2 p.2 e → Met A s ys r b → Met A s ys (x :: r) (e && b)
theorem same_rows {nm : String} {a c : Addr} {xs ys : List (K × Addr × Value)} {r : Bool} {Q : Bool → Shared → Prop} (hu : knd.room A) (ha : (a == sysModules) = false) (hc : (c == sysModules) = false)
    (dx : s.heap.DictOfH knd a xs) (dy : s.heap.DictOfH knd c ys) (met : xs.length = ys.length → Met A s ys xs r) (h : Q (xs.length == ys.length && r) s) : wpAny (model prog w) A (Builtin.Dict.samePairs nm a c) Q E s := by
  obtain ⟨oa, ea, pa, hoa, _, hda, hea, hia, hna⟩ := dx
  obtain ⟨ob, eb, pb, hob, _, hdb, heb, hib, hnb⟩ := dy
  have sa : ea.size = xs.length := size_of_entries hea
  have sb : eb.size = ys.length := size_of_entries heb
  unfold Builtin.Dict.samePairs Builtin.Dict.showsAll
  rw [if_neg (by rw [ha]; decide), if_neg (by rw [hc]; decide)]
  refine wpAny_bind (wpAny_pure (wpAny_bind (wpAny_pure (wpAny_bind (wpAny_dictEntries hoa hda ?_)))))
  dsimp only
  refine wpAny_bind (wpAny_dictEntries hob hdb ?_)
  by_cases hsz : xs.length = ys.length
  · have h' : Q r s := by simpa [hsz] using h
    have met' := met hsz
    rw [if_neg (by rw [sa, sb, hsz]; simp)]
    refine wpAny_bind (wpAny_dictEpoch hoa hda (wpAny_bind ?_))
    rw [Std.Legacy.Range.forIn_eq_forIn_range']
    simp only [Std.Legacy.Range.size, Nat.sub_zero, Nat.add_sub_cancel, Nat.div_one]
    refine wpAny_forIn_list _ (fun rest q s' => s' = s ∧ q = (none, ()) ∧ ∃ i, rest = List.range' i (ea.size - i) ∧ i ≤ ea.size ∧ Met A s ys (xs.drop i) r) _ ?_ ?_ _ _ ⟨rfl, rfl, 0, by simp, Nat.zero_le _, met'⟩
    · rintro n rest q s' ⟨rfl, rfl, i, hr, hi, hm⟩
      have hlt : i < ea.size := by
        by_cases h : i < ea.size
        · exact h
        · rw [Nat.sub_eq_zero_of_le (Nat.le_of_not_lt h)] at hr; simp at hr
      obtain ⟨rfl, hrest⟩ : n = i ∧ rest = List.range' (i + 1) (ea.size - (i + 1)) := by
        rw [show ea.size - i = (ea.size - (i + 1)) + 1 by omega, List.range'_succ] at hr
        injection hr with h1 h2
        exact ⟨h1, h2⟩
      have hlx : n < xs.length := by rw [← sa]; exact hlt
      refine wpAny_bind (wpAny_dictEntries hoa hda ?_)
      rw [entry_at hea n, List.getElem?_eq_getElem hlx]
      show wpAny _ _ (holding [.ref xs[n].2.1, xs[n].2.2] _ >>= _) _ _ _
      have hd : xs.drop n = xs[n] :: xs.drop (n + 1) := List.drop_eq_getElem_cons hlx
      rw [hd] at hm
      refine wpAny_bind (wpAny_holding (wpAny_bind (wpAny_dictFind_heap hu (hia _ (List.getElem_mem hlx)) hob hdb heb hib hnb ?_ ?_)))
      · intro hno
        have hn : atKey ys xs[n].1 = none := atKey_none_of_get hno
        refine wpAny_pure ?_
        generalize hx : xs[n] = x at *
        cases hm with
        | out _ =>
          show wpAny _ _ (if (!false) = true then _ else _) _ _ _
          rw [if_pos (by decide)]
          exact wpAny_pure (wpAny_pure h')
        | row hy _ _ => rw [hn] at hy; exact nomatch hy
      · intro j p hj
        have hy : atKey ys xs[n].1 = some p := atKey_of_get hnb hj
        refine wpAny_bind (wpAny_dictEntries hob hdb ?_)
        rw [entry_at heb j, hj]
        generalize hx : xs[n] = x at *
        cases hm with
        | out hn => rw [hn] at hy; exact nomatch hy
        | @row _ p' _ e b' hy' he hr' =>
          rw [hy'] at hy
          cases hy
          refine wpAny_holding (he prog w _ _ ?_)
          cases e with
          | false =>
            show wpAny _ _ (if (!false) = true then _ else _) _ _ _
            rw [if_pos (by decide)]
            exact wpAny_pure (wpAny_pure h')
          | true =>
            show wpAny _ _ (if (!true) = true then _ else _) _ _ _
            rw [if_neg (by decide)]
            refine wpAny_bind (wpAny_dictEpoch hoa hda ?_)
            rw [if_neg (by simp)]
            exact wpAny_pure ⟨rfl, rfl, n + 1, hrest, hlt, by simpa using hr'⟩
    · rintro q s' ⟨rfl, rfl, i, hr, hi, hm⟩
      have hin : i = xs.length := by
        by_cases h : i < ea.size
        · rw [show ea.size - i = (ea.size - (i + 1)) + 1 by omega, List.range'_succ] at hr; exact nomatch hr
        · omega
      rw [hin, List.drop_length] at hm
      cases hm
      exact wpAny_pure h'
  · rw [if_pos (by rw [sa, sb]; simpa using hsz)]
    have hf : (xs.length == ys.length) = false := by simpa using hsz
    rw [hf, Bool.false_and] at h
    exact wpAny_bind (wpAny_rule (wpAny_pure h))
theorem eq_dictH {a c : Addr} {xs ys : List (K × Addr × Value)} {r : Bool} {Q : Value → Shared → Prop} (hu : knd.room A.in1) (hun : A.units < cLine) (ha : (a == sysModules) = false) (hc : (c == sysModules) = false)
    (dx : s.heap.DictOfH knd a xs) (dy : s.heap.DictOfH knd c ys) (met : xs.length = ys.length → Met A.in1 s ys xs r) (h : Q (.bool (xs.length == ys.length && r)) s) : wpAny (model prog w) A (compareOp .Eq (.ref a) (.ref c)) Q E s := by
  refine wpAny_richCompare_same_room (op := .Eq) dx.typeIs dy.typeIs PySem.F.slot_dict_eq (wpAny_call_entry PySem.F.slot_dict_eq dx.typeIs PySem.F.entry_dict_eq ?_ (PySem.F.args_dict_eq_2 _ _)) hun
  show wpAny _ _ (Builtin.Dict.dictSlotArgs "__eq__" ⟨[.ref a, .ref c], []⟩ >>= _) _ _ _
  refine wpAny_bind ?_
  unfold Builtin.Dict.dictSlotArgs
  refine wpAny_bind (wpAny_notOrdered_dict dx.typeIs ?_)
  show wpAny _ _ (pure (Value.ref a, Value.ref c)) _ _ _
  refine wpAny_pure (wpAny_bind (wpAny_isInstance (T := "dict") dy.typeIs PySem.F.sub_dict_dict ?_))
  simp only [Bool.not_true, Bool.false_eq_true, if_false]
  refine wpAny_bind (wpAny_pure (wpAny_bind (wpAny_pure (wpAny_bind (same_rows hu ha hc dx dy met (wpAny_pure ⟨_, rfl, (fun z => nomatch z), ?_⟩))))))
  simpa using h
end
/-- the values are ints -/
def asDI : List (List L2.Key × D) → Option (List (List L2.Key × Int))
  | [] => some []
  | (k, .int i) :: r => (asDI r).map ((k, i) :: ·)
  | _ :: _ => none
def rowsEq (xs ys : List (List L2.Key × Int)) : Bool := xs.length == ys.length && xs.all fun q => decide ((ys.find? fun p => decide (p.1 = q.1)).map (·.2) = some q.2)
def eqDT : Op2 := fun M x y => (asDT M x).bind fun k1 => (asDT M y).bind fun k2 => (asDI k1).bind fun i1 => (asDI k2).bind fun i2 => some (.bl (rowsEq i1 i2))
theorem asDI_snd {K : PySem.W.Frag} {B : Hp} {ρ : List Addr} : ∀ {kds : List (List L2.Key × D)} {kvs : List (List L2.Key × V)} {is : List (List L2.Key × Int)}, Paired (PrD K B ρ) kds kvs → asDI kds = some is → kvs = is.map fun q => (q.1, V.int q.2)
  | [], _, is, .nil, h => by cases h; rfl
  | (k, d) :: r, (k', v) :: r', is, .cons p t, h => by
    cases d with
    | int i =>
      simp only [asDI] at h
      cases hr : asDI r with
      | none => rw [hr] at h; cases h
      | some js =>
        rw [hr] at h
        cases h
        obtain ⟨rfl, rv⟩ := p
        cases rv
        rw [asDI_snd t hr]
        rfl
    | _ => cases h
theorem met_of {P : Program} {w : World} {A : Around} {s : Shared} {H : Hp} {i2 : List (List L2.Key × Int)} {ys : List (List L2.Key × Addr × Value)}
    (r2 : Paired (fun (p : List L2.Key × V) (q : List L2.Key × Addr × Value) => p.1 = q.1 ∧ H q.2.1 = some (.tup (p.1.map kV)) ∧ RelV p.2 q.2.2) (i2.map fun q => (q.1, V.int q.2)) ys) :
    ∀ {i1 : List (List L2.Key × Int)} {xs : List (List L2.Key × Addr × Value)}, Paired (fun (p : List L2.Key × V) (q : List L2.Key × Addr × Value) => p.1 = q.1 ∧ H q.2.1 = some (.tup (p.1.map kV)) ∧ RelV p.2 q.2.2) (i1.map fun q => (q.1, V.int q.2)) xs →
      Met A s ys xs (i1.all fun q => decide ((i2.find? fun p => decide (p.1 = q.1)).map (·.2) = some q.2)) := by
  have find : ∀ {i2 : List (List L2.Key × Int)} {ys : List (List L2.Key × Addr × Value)} (k : List L2.Key), Paired (fun (p : List L2.Key × V) (q : List L2.Key × Addr × Value) => p.1 = q.1 ∧ H q.2.1 = some (.tup (p.1.map kV)) ∧ RelV p.2 q.2.2) (i2.map fun q => (q.1, V.int q.2)) ys →
      match (i2.find? fun p => decide (p.1 = k)).map (·.2) with
      | none => atKey ys k = none
      | some i => ∃ p t, atKey ys k = some p ∧ p.2 = .int i t := by
    intro i2
    induction i2 with
    | nil =>
      intro ys k p
      cases p
      rfl
    | cons q i2 ih =>
      intro ys k p
      cases p with
      | @cons _ y _ ys' r t =>
        obtain ⟨e1, e2, t0, e3⟩ := r
        have e1 : q.1 = y.1 := e1
        by_cases hk : q.1 = k
        · rw [List.find?_cons_of_pos (by simpa using hk)]
          refine ⟨y.2, t0, ?_, e3⟩
          unfold atKey
          rw [List.find?_cons_of_pos (by simpa using e1.symm.trans hk)]
          rfl
        · rw [List.find?_cons_of_neg (by simpa using hk)]
          have hz : atKey (y :: ys') k = atKey ys' k := by
            unfold atKey
            rw [List.find?_cons_of_neg (by simpa using fun z => hk (e1.trans z))]
          rw [hz]
          exact ih k t
  intro i1
  induction i1 with
  | nil =>
    intro xs p
    cases p
    exact .nil
  | cons q i1 ih =>
    intro xs p
    cases p with
    | @cons _ x _ xs' r t =>
      obtain ⟨e1, e2, t0, e3⟩ := r
      have e1 : q.1 = x.1 := e1
      have e3 : x.2.2 = .int q.2 t0 := e3
      have hf := find q.1 r2
      rw [List.all_cons]
      cases hc : (i2.find? fun p => decide (p.1 = q.1)).map (·.2) with
      | none =>
        rw [hc] at hf
        have : (decide ((none : Option Int) = some q.2)) = false := by simp
        rw [this, Bool.false_and]
        exact .out (by rw [← e1]; exact hf)
      | some i =>
        rw [hc] at hf
        obtain ⟨p, t1, hp, hv⟩ := hf
        refine .row (p := p) (by rw [← e1]; exact hp) ?_ (ih t)
        rw [e3, hv]
        have := SeqAt.EqAt.int_int (A := A) (s := s) q.2 t0 i t1
        have hd : decide (some i = some q.2) = (q.2 == i) := by
          by_cases hq : q.2 = i
          · subst hq; simp
          · rw [decide_eq_false (fun z => hq (Option.some.inj z).symm)]
            exact (beq_eq_false_iff_ne.mpr hq).symm
        rw [hd]
        exact this
section
variable {X : Cx}
theorem od_eqDT {k : Nat} (hr : Room k X.A) : OpD X (compareOp .Eq) eqDT := by
  refine ⟨fun x y H Q => ∃ a b i1 i2, x = .ref a ∧ y = .ref b ∧ Rd H a (.dT (i1.map fun (q : List L2.Key × Int) => (q.1, V.int q.2))) ∧ Rd H b (.dT (i2.map fun (q : List L2.Key × Int) => (q.1, V.int q.2))) ∧ Q (.bl (rowsEq i1 i2)) H, fun pins s σ H x y v u Q I rx ry h => ?_, fun F B ρ M H x y dx dy dz Q m rx ry e k => ?_⟩
  · obtain ⟨a, b, i1, i2, rfl, rfl, h1, h2, q⟩ := h
    cases rx
    cases ry
    obtain ⟨z1, n1, xs, r1, d1⟩ := dt_rd I.hok h1
    obtain ⟨z2, n2, ys, r2, d2⟩ := dt_rd I.hok h2
    have l1 : xs.length = i1.length := by have := Paired.length r1; simpa using this.symm
    have l2 : ys.length = i2.length := by have := Paired.length r2; simpa using this.symm
    refine eq_dictH (tupleKind_room_in1 (by have := hr.un; omega)) (by have := hr.un; omega) n1 n2 d1 d2 (fun _ => met_of (P := X.prog) (w := X.w) r2 r1) ⟨_, H, I, ?_, q⟩
    rw [l1, l2]
    rfl
  · unfold eqDT at e
    cases ha : asDT M dx with
    | none => simp [ha] at e
    | some k1 =>
      cases hb : asDT M dy with
      | none => simp [ha, hb] at e
      | some k2 =>
        cases hc : asDI k1 with
        | none => simp [ha, hb, hc] at e
        | some i1 =>
          cases hd : asDI k2 with
          | none => simp [ha, hb, hc, hd] at e
          | some i2 =>
            simp only [ha, hb, hc, hd, Option.bind_some] at e
            obtain rfl := Option.some.inj e
            obtain ⟨a, kvs, rfl, r1, q1⟩ := asDT_snd m rx ha
            obtain ⟨b, kws, rfl, r2, q2⟩ := asDT_snd m ry hb
            rw [asDI_snd q1 hc] at r1
            rw [asDI_snd q2 hd] at r2
            exact ⟨a, b, i1, i2, rfl, rfl, r1, r2, k.same m (.bl _)⟩
end
end Dn

/-! DnNe: == and != by an own __eq__; isinstance with an own class -/
namespace Dn
open PySem PySem.Spec PyProof.Rows L2 Evl
section
variable {prog : Program} {w : World} {A : Around} {E : Value → Shared → Prop} {s : Shared} {K : PySem.W.Frag} {x C f L : Addr} {ox : Obj} {od : Option Obj} {h₀ : Heap} {m : Str → Option Value} {b tb : Value}
theorem check_own {M : Model} {id owner n : String} {rest : List Value} {Q : Unit → Shared → Prop} (hk : builtinKind id = some .slot) (hsp : splitId id = some (owner, n)) (ha : argsOk id ⟨.ref x :: rest, []⟩)
    (I : PySem.W.InstAt s.heap x ox C od) (X : K.In s.heap) (hob : PySem.W.subIn K (.ref C) (.type owner) = some true) (hq : Q () s) : wpAny M A (checkBuiltinCall id ⟨.ref x :: rest, []⟩) Q E s := by
  have is1 : PySem.W.Looks M s.heap (isInstance (.ref x) (.type owner)) true := by
    unfold isInstance
    exact I.type.andThen (PySem.W.looks_subIn X hob)
  simp only [checkBuiltinCall, hk, hsp]
  refine wpAny_bind (is1.here ?_)
  simp only [Bool.not_true, Bool.false_eq_true, if_false]
  cases hsig : Manifest.signature? id with
  | none => exact wpAny_pure hq
  | some sig =>
    simp only [argsOk, hsig] at ha
    have h2 : Bind.checkArgs id sig ⟨.ref x :: rest, []⟩ = pure () := ha
    show wpAny M A (Bind.checkArgs id sig ⟨.ref x :: rest, []⟩) Q E _
    rw [h2]
    exact wpAny_pure hq
/-- != by object.__ne__, which asks the own == -/
theorem ne_own {Q : Value → Shared → Prop} (hu : A.units + 1 < cLine) (Fr0 : Fr h₀ L s.heap m) (X₀ : K.In h₀) (I : PySem.W.InstAt s.heap x ox C od) (hb : PySem.W.Looks (model prog w) s.heap (typeOf b) tb) (hn : PySem.W.notFirst K C tb = true)
    (hne : PySem.W.findIn K (.ref C) "__ne__" = some (some (.builtin "object.__ne__"))) (hob : PySem.W.subIn K (.ref C) (.type "object") = some true)
    (hs : PySem.W.findIn K (.ref C) "__eq__" = some (some (.ref f))) (hf : PySem.W.isFn K (.ref f) = true)
    (h : wpAny (model prog w) A.in1 (call (.ref f) [.ref x, b]) (fun v s' => ∃ r, v = .bool r ∧ Q (.bool (!r)) s') E s) : wpAny (model prog w) A (compareOp .NotEq (.ref x) b) Q E s := by
  have X := X₀.keeps Fr0.keep
  have body : wpAny (model prog w) A.in1 (Builtin.«object.__ne__» ⟨[.ref x, b], []⟩) (fun fin s' => ∃ v, fin = .done (.ret v) ∧ ∃ r, v = .bool (!r) ∧ Q (.bool (!r)) s') E s := by
    unfold Builtin.«object.__ne__»
    refine wpAny_bind (m := slotArgs "__ne__" 1 _) (wpAny_pure ?_)
    dsimp only
    refine wpAny_bind (wpAny_cRoomFor hu ?_)
    refine wpAny_bind (m := callSpecialIfBound? (.ref x) (Str.ofString "__eq__") [b]) (PySem.W.ifBound_K X I hs hf (wpAny_mono h (fun v s' hv => ?_) fun _ _ e => e))
    obtain ⟨r, rfl, hq⟩ := hv
    exact wpAny_bind (wpAny_truthy_bool (wpAny_pure ⟨_, rfl, r, rfl, hq⟩))
  have asked : wpAny (model prog w) A (call (.builtin "object.__ne__") [.ref x, b]) (fun v s' => ∃ r, v = .bool (!r) ∧ Q (.bool (!r)) s') E s := by
    refine wpAny_call (codeAny_call_builtin F.slot_object_ne.plain F.cmpEntry_ne (check_own F.cmpKind_ne F.cmpSplit_ne (F.cmpArgs_ne _ _) I X hob ?_))
    refine wpAny_mono body (fun fin s' hv => ?_) fun _ _ e => e
    obtain ⟨v, rfl, q⟩ := hv
    exact q
  have one : wpAny (model prog w) A (tryCompare (.ref x) "__ne__" b) (fun r s' => ∃ v, r = some v ∧ Q v s') E s := by
    simp only [tryCompare, callSpecialIfBound?, bindSpecialIfBound?]
    refine wpAny_bind (wpAny_holding (wpAny_bind (wpAny_bind (wpAny_bind (I.type.here ((PySem.W.looks_findIn X hne).here ?_))))))
    refine wpAny_bind (wpAny_askSetting (wpAny_ite ?_))
    have fin : wpAny (model prog w) A (call (.builtin "object.__ne__") ([.ref x] ++ [b]) >>= fun v => pure (some v)) (fun r s' => ∃ v t, r = some (.bool t) ∧ v = Value.bool t ∧ Q v s') E s :=
      wpAny_bind (wpAny_mono asked (fun v s' h' => by obtain ⟨r, rfl, q⟩ := h'; exact wpAny_pure ⟨_, _, rfl, rfl, q⟩) fun _ _ e => e)
    simp only [F.slot_object_ne.bind]
    have back : wpAny (model prog w) A (call (.builtin "object.__ne__") ([.ref x] ++ [b]) >>= fun v => pure (some v)) (fun a s₁ => wpAny (model prog w) A (match a with | some Value.notImplemented => pure none | none => pure none | some r => pure (some r)) (fun r s' => ∃ v, r = some v ∧ Q v s') E s₁) E s :=
      wpAny_mono fin (fun r s' h' => by obtain ⟨v, t, rfl, rfl, q⟩ := h'; exact wpAny_pure ⟨_, rfl, q⟩) fun _ _ e => e
    split
    · exact wpAny_bind (wpAny_pure (wpAny_pure back))
    · exact wpAny_tryCatch (wpAny_bind (wpAny_pure (wpAny_pure back)))
  unfold compareOp
  unfold richCompare
  simp only [oneThing_ref]
  refine wpAny_holding (wpAny_bind (wpAny_cRoomFor (Nat.lt_of_succ_lt hu) ?_))
  refine wpAny_bind (I.type.here (wpAny_bind (hb.here ?_)))
  split
  · rename_i q
    have e : PySem.W.subIn K tb (.ref C) = some false := by
      rcases Bool.or_eq_true_iff.mp hn with e | e
      · rw [beq_iff_eq.mp e] at q; simp at q
      · exact beq_iff_eq.mp e
    refine wpAny_bind ((PySem.W.looks_subIn X e).here ?_)
    simp only [Bool.false_eq_true, if_false]
    refine wpAny_bind (wpAny_mono one (fun r s' z => ?_) fun _ _ e => e)
    obtain ⟨v, rfl, hq⟩ := z
    exact wpAny_pure hq
  · refine wpAny_bind (wpAny_pure ?_)
    simp only [Bool.false_eq_true, if_false]
    refine wpAny_bind (wpAny_mono one (fun r s' z => ?_) fun _ _ e => e)
    obtain ⟨v, rfl, hq⟩ := z
    exact wpAny_pure hq
end
section
variable {X : Cx}
/-- what is asked of an own == of two instances of the class at C -/
def rOwn (neg : Bool) (C : Addr) (sp : Sp) : R2 := fun x y H Q => ∃ (a c dx dy : Addr) (fs gs : List (Str × V)), x = .ref a ∧ y = .ref c ∧ H a = some (.ins C dx fs) ∧ H c = some (.ins C dy gs) ∧ sp [.ref a, .ref c] H (fun v H' => ∃ r, v = .bl r ∧ Q (.bl (if neg then !r else r)) H') E0
theorem run_eq {A : Around} {k : Nat} {g : Addr} {fd : FuncData} {ps : List Str} {sp : Sp} {pins : List (Addr × Obj)} {s : Shared} {σ : L2.St} {H : Hp} {a c : Addr} {Q : VK} (F : FnOk X.prog X.w X.K X.mg X.base CX0 k g fd ps sp) (hb : Binds X.K fd ps []) (hr : Room k A) (hA : A.frames = X.A.frames)
    (I : Inv X pins σ H s) (hsp : sp [.ref a, .ref c] H Q E0) : wpAny (model X.prog X.w) A (call (.ref g) [.ref a, .ref c]) (EP X pins σ Q) X.xe s := by
  have e0 : Env0 X.prog X.w X.K X.mg X.base A X.stack s H := let e := I.env0; ⟨by rw [hA]; exact e.frames, e.mod, e.bs, e.bsz, e.funs, e.frf, e.hok, e.bare⟩
  have hl := F.len _ _ _ _ hsp
  refine wpAny_call (codeAny_mono (F.run A X.stack s H ⟨[.ref a, .ref c], []⟩ [.ref a, .ref c] [.ref a, .ref c] _ E0 hr e0 (by simpa using hb s [.ref a, .ref c] I.kIn (by simpa using hl)) (.cons rfl (.cons rfl .nil)) hsp) fun r s' hq => ?_)
  cases r with
  | error e => exact False.elim hq
  | ok fl =>
    cases fl with
    | ret w => exact I.after hq
    | next => exact False.elim hq
    | brk => exact False.elim hq
    | cont => exact False.elim hq
theorem op_eqOwn {k : Nat} {C g : Addr} {fd : FuncData} {ps : List Str} {sp : Sp} (F : FnOk X.prog X.w X.K X.mg X.base CX0 k g fd ps sp) (hs : PySem.W.findIn X.K (.ref C) "__eq__" = some (some (.ref g))) (hf : PySem.W.isFn X.K (.ref g) = true) (hb : Binds X.K fd ps []) (hr : Room k X.A) :
    OpR X (compareOp .Eq) (rOwn false C sp) := by
  intro pins s σ H x y v u Q I rx ry h
  obtain ⟨a, c, dx, dy, fs, gs, rfl, rfl, ha, hc, hsp⟩ := h
  cases rx
  cases ry
  obtain ⟨mA, J, _⟩ := ins_get I.hok ha
  obtain ⟨mB, J', _⟩ := ins_get I.hok hc
  obtain ⟨od, J, _⟩ := J.look
  obtain ⟨od', J', _⟩ := J'.look
  obtain ⟨m, hF⟩ := I.fr
  refine PySem.W.cmp_ofEq (PySem.W.cmp_K (op := .Eq) (tb := .ref C) hr.units0 hF I.ok.mod.kin J J'.type (by simp [PySem.W.notFirst]) hs hf (wpAny_mono (run_eq F hb hr rfl I hsp) (fun v s' hv => ?_) fun _ _ z => z))
  obtain ⟨z, H', I', rz, r, rfl, q⟩ := hv
  cases rz
  exact ⟨.bl r, H', I', rfl, q⟩
theorem op_neOwn {k : Nat} {C g : Addr} {fd : FuncData} {ps : List Str} {sp : Sp} (F : FnOk X.prog X.w X.K X.mg X.base CX0 k g fd ps sp) (hs : PySem.W.findIn X.K (.ref C) "__eq__" = some (some (.ref g))) (hf : PySem.W.isFn X.K (.ref g) = true) (hb : Binds X.K fd ps [])
    (hne : PySem.W.findIn X.K (.ref C) "__ne__" = some (some (.builtin "object.__ne__"))) (hob : PySem.W.subIn X.K (.ref C) (.type "object") = some true) (hr : Room (k + 1) X.A) : OpR X (compareOp .NotEq) (rOwn true C sp) := by
  intro pins s σ H x y v u Q I rx ry h
  obtain ⟨a, c, dx, dy, fs, gs, rfl, rfl, ha, hc, hsp⟩ := h
  cases rx
  cases ry
  obtain ⟨mA, J, _⟩ := ins_get I.hok ha
  obtain ⟨mB, J', _⟩ := ins_get I.hok hc
  obtain ⟨od, J, _⟩ := J.look
  obtain ⟨od', J', _⟩ := J'.look
  obtain ⟨m, hF⟩ := I.fr
  refine ne_own (tb := .ref C) (by have := hr.un; omega) hF I.ok.mod.kin J J'.type (by simp [PySem.W.notFirst]) hne hob hs hf (wpAny_mono (run_eq F hb hr.in1 rfl I hsp) (fun v s' hv => ?_) fun _ _ z => z)
  obtain ⟨z, H', I', rz, r, rfl, q⟩ := hv
  cases rz
  exact ⟨r, rfl, .bl (!r), H', I', rfl, q⟩
variable {W : WX} {e1 e2 : Expr} {f g : XE} {pos : Pos}
def notIf (neg : Bool) : D → Mem → R D := fun r M => match r with
  | .bl b => .ok (.bl (if neg then !b else b)) M
  | _ => .no
/-- == or != of two instances of x -/
def xEqO (neg : Bool) (x : Str) (fn : Fn) (f g : XE) : XE := fun η M => (f η M).bind fun d1 M1 => (g η M1).bind fun d2 M2 => match asIns M2 d1, asIns M2 d2 with
  | some (y, _), some (z, _) => if y = x ∧ z = x then (fn [d1, d2] M2).bind (notIf neg) else .no
  | _, _ => .no
theorem own_snd {neg : Bool} {x : Str} {fn : Fn} {C : Addr} (hC : PySem.W.nsIn X.K mainGlobals x = some (some (.ref C))) (σ : L2.St) (H : Hp) (Q : VK) (z : tE X.K X.mg W (xEqO neg x fn f g) σ H Q) : tOp (rOwn neg C (spF X.K X.mg 2 fn)) (tE X.K X.mg W f) (tE X.K X.mg W g) σ H Q := by
  obtain ⟨η, F, B, ρ, M, er, m, w⟩ := z
  refine ⟨η, F, B, ρ, M, er, m, w.bind fun d1 M1 B1 ρ1 H1 l1 m1 w1 v1 r1 => ?_⟩
  refine ⟨η, F, B1, ρ1, M1, er.mono l1, m1, w1.bind fun d2 M2 B2 ρ2 H2 l2 m2 w2 v2 r2 => ?_⟩
  split at w2
  · next y fs z gs h1 h2 =>
    split at w2
    · next hy =>
      obtain ⟨rfl, rfl⟩ := hy
      obtain ⟨a, C1, dx, us, rfl, hc1, hH1, _⟩ := asIns_snd m2 (r1.mono l2) h1
      obtain ⟨c, C2, dy, vs, rfl, hc2, hH2, _⟩ := asIns_snd m2 r2 h2
      rw [hC] at hc1 hc2
      cases hc1
      cases hc2
      refine ⟨a, c, dx, dy, us, vs, rfl, rfl, hH1, hH2, _, [d1, d2], F, B2, ρ2, M2, rfl, .cons (r1.mono l2) (.cons r2 .nil), m2, w2.bind fun r0 M3 B3 ρ3 H3 l3 m3 w3 v rv => ?_⟩
      unfold notIf at w3
      split at w3
      · next b =>
        cases rv
        exact ⟨b, rfl, Wp.ret w3 m3 _ (.bl _)⟩
      · exact w3.elim
    · exact w2.elim
  · exact w2.elim
theorem de_eqO {k : Nat} {x : Str} {fn : Fn} (G : SpD X.prog X.w X.K X.mg X.base k x "__eq__" 2 fn) (hr : Room k X.A) (ha : DE X W e1 f) (hb : DE X W e2 g) (hm : behindInMarks .Eq e2 = false) : DE X W (.Compare e1 [.Eq] [e2] pos) (xEqO false x fn f g) := by
  obtain ⟨C, a, fd, ps, hC, hf, hi, Fo, hb'⟩ := G.ex
  exact PE.imp (pe_cmpR (op_eqOwn Fo hf hi hb' hr) ha hb hm) (own_snd hC)
/-- the class x has object's != -/
def NeD (K : PySem.W.Frag) (x : Str) : Prop := ∃ C, PySem.W.nsIn K mainGlobals x = some (some (.ref C)) ∧ PySem.W.findIn K (.ref C) "__ne__" = some (some (.builtin "object.__ne__")) ∧ PySem.W.subIn K (.ref C) (.type "object") = some true
theorem de_neO {k : Nat} {x : Str} {fn : Fn} (G : SpD X.prog X.w X.K X.mg X.base k x "__eq__" 2 fn) (N : NeD X.K x) (hr : Room (k + 1) X.A) (ha : DE X W e1 f) (hb : DE X W e2 g) (hm : behindInMarks .NotEq e2 = false) : DE X W (.Compare e1 [.NotEq] [e2] pos) (xEqO true x fn f g) := by
  obtain ⟨C, a, fd, ps, hC, hf, hi, Fo, hb'⟩ := G.ex
  obtain ⟨C', hC', n1, n2⟩ := N
  rw [hC] at hC'
  cases hC'
  exact PE.imp (pe_cmpR (op_neOwn Fo hf hi hb' n1 n2 hr) ha hb hm) (own_snd hC)
theorem dt_eqO {k : Nat} {x : Str} {fn : Fn} (G : SpD X.prog X.w X.K X.mg X.base k x "__eq__" 2 fn) (hr : Room k X.A) (ha : DE X W e1 f) (hb : DE X W e2 g) (hm : behindInMarks .Eq e2 = false) : DT X W (.Compare e1 [.Eq] [e2] pos) (xTst (xEqO false x fn f g)) := by
  obtain ⟨C, a, fd, ps, hC, hf, hi, Fo, hb'⟩ := G.ex
  exact PT.imp (pt_cmpR (op_eqOwn Fo hf hi hb' hr) ha hb hm) (tst_snd (own_snd hC))
theorem dt_neO {k : Nat} {x : Str} {fn : Fn} (G : SpD X.prog X.w X.K X.mg X.base k x "__eq__" 2 fn) (N : NeD X.K x) (hr : Room (k + 1) X.A) (ha : DE X W e1 f) (hb : DE X W e2 g) (hm : behindInMarks .NotEq e2 = false) : DT X W (.Compare e1 [.NotEq] [e2] pos) (xTst (xEqO true x fn f g)) := by
  obtain ⟨C, a, fd, ps, hC, hf, hi, Fo, hb'⟩ := G.ex
  obtain ⟨C', hC', n1, n2⟩ := N
  rw [hC] at hC'
  cases hC'
  exact PT.imp (pt_cmpR (op_neOwn Fo hf hi hb' n1 n2 hr) ha hb hm) (tst_snd (own_snd hC))
/-! ### isinstance(e, C) -/
/-- what isinstance looks at in the class x -/
def IsC (K : PySem.W.Frag) (mg : Str → Option Value) (x : Str) : Prop := ∃ C, PySem.W.nsIn K mainGlobals x = some (some (.ref C)) ∧ mg x = some (.ref C) ∧ Cls K C ∧ PySem.W.findIn K (.ref C) "__class__" = some (some (.builtin "object.__class__")) ∧ PySem.W.specialIn K (.builtin "object.__class__") "__get__" = some (some (.builtin "getset_descriptor.__get__")) ∧
  PySem.W.takesIn K (.builtin "object.__class__") = some true ∧ PySem.W.mroIn K C (.type "object") = some true ∧ ∀ n ∈ ["NoneType", "bool", "int", "str", "list", "tuple", "dict"], PySem.W.kitOne K (.type n) (.ref C) = some false
theorem de_cls {x : Str} (G : IsC X.K X.mg x) (hg : Gl X x) (hd : (x == ("__debug__" : Str)) = false := by decide) : DE X W (.Name x pos) (xC (.fn x)) := by
  obtain ⟨C, hC, hm, _⟩ := G
  exact sE (pe_glob (v := .ref C) hg hm rfl hd) fun σ H Q η F B ρ M e m w => w.ret m _ (.fn hC)
def xIsO (x : Str) (fa : XA) : XE := fun η M => (fa η M).bind fun ds M1 => match ds with
  | [d, .fn y] => if y = x then match asIns M1 d with
    | some (z, _) => if z = x then .ok (.bl true) M1 else .no
    | none => match tyN M1 d with
      | some t => if t ∈ ["NoneType", "bool", "int", "str", "list", "tuple", "dict"] then .ok (.bl false) M1 else .no
      | none => .no
    else .no
  | _ => .no
theorem de_isO {x : Str} {es : List Expr} {fa : XA} {p : Pos} (G : IsC X.K X.mg x) (hg : Gl X "isinstance") (hm : X.mg "isinstance" = none) (ha : DA X W (e1 :: es) fa) (hs : starEach (e1 :: es) X.env = (false, eval e1 X.env) :: starEach es X.env := by rfl) (hp : (backTo pos (starEach es X.env)).any (·.1) = false := by rfl) :
    DE X W (.Call (.Name "isinstance" p) (e1 :: es) [] pos) (xIsO x fa) := by
  obtain ⟨C, hC, _, cl, h1, h2, h3, h4, h5⟩ := G
  refine PE.imp (pe_callB call_isi hg hm bt_isinstance ha (by decide) (by decide) hs hp) fun σ H Q z => ?_
  obtain ⟨η, F, B, ρ, M, er, m, w⟩ := z
  refine ⟨η, F, B, ρ, M, er, m, w.bind fun ds M1 B1 ρ1 H1 l1 m1 w1 vs rv => ?_⟩
  split at w1
  · next d y =>
    split at w1
    · next hy =>
      subst hy
      cases rv with
      | cons r rr =>
        cases rr with
        | cons r' rr =>
          cases rr
          cases r' with
          | @fn a _ hc =>
            rw [hC] at hc
            cases hc
            split at w1
            · next z0 fs hi =>
              split at w1
              · next hz =>
                subst hz
                obtain ⟨b, C1, dx, gs, rfl, hc1, hH, _⟩ := asIns_snd m1 r hi
                rw [hC] at hc1
                cases hc1
                exact ⟨_, _, .ref C, .ref C, true, rfl, .own C, .base (.ins hH cl h1 h2 h3 h4), by simp [PySem.W.kitOne], Wp.ret w1 m1 _ (.bl _)⟩
              · exact w1.elim
            · split at w1
              · next t ht =>
                split at w1
                · next hmem => exact ⟨_, _, .type t, .ref C, false, rfl, .own C, tyN_snd m1 r ht, h5 t hmem, Wp.ret w1 m1 _ (.bl _)⟩
                · exact w1.elim
              · exact w1.elim
    · exact w1.elim
  · exact w1.elim
end
/-- an inner block's scope, as it is seen from sc0 -/
def innerS (sc0 sc : Scope) : Scope := { sc with names := sc.names.map fun q => if (q.2 == .free && sc0.kind == .function && sc0.names.lookup q.1 == some .cell) then (q.1, .cell) else q }
/-- a comprehension within another's block -/
theorem blk_in {X : Cx} {s : Shared} {H : Hp} {sc sc2 sc0 : Scope} {cl : List (Str × Addr)} {C : Addr} {fp : List Addr} {N : List Str} {own : List (Str × Nat)} (h : blkC N (innerS sc0 sc) sc2 own = true) (hN : X.N = N) (hS : X.env.scope = sc0) : BlkOk (X.blk s H sc (compEnvC sc cl C X.env) fp).N (X.blk s H sc (compEnvC sc cl C X.env) fp).env.scope sc2 own := by
  subst hN hS
  exact blkOk_by h
end Dn

/-! DnWhile: while; name op= e; o[i] op= e at a list's item -/
namespace Dn
open PySem PySem.Spec PyProof.Rows L2 Evl
/-- at most n turns -/
def xWhileN (t : XT) (b : XS) : Nat → Dv → Mem → R Fl
  | 0, _, _ => .no
  | n + 1, η, M => (t η M).bind fun c M1 => if c = true then (b η M1).bind fun fl M2 => match fl with
    | .nx η2 => xWhileN t b n η2 M2
    | .ct η2 => xWhileN t b n η2 M2
    | .bk η2 => .ok (.nx η2) M2
    | .rt v => .ok (.rt v) M2
    else .ok (.nx η) M1
open Classical in
noncomputable def xWhile (t : XT) (b : XS) : XS := fun η M => if h : ∃ n, xWhileN t b n η M ≠ .no then xWhileN t b (Classical.choose h) η M else .no
theorem bind_no {α β : Type} {r : R α} {k : α → Mem → R β} (h : r.bind k ≠ .no) : (∃ a M, r = .ok a M ∧ k a M ≠ .no) ∨ ∃ e M, r = .ex e M := by
  cases r with
  | ok a M => exact .inl ⟨a, M, rfl, h⟩
  | ex e M => exact .inr ⟨e, M, rfl⟩
  | no => exact (h rfl).elim
theorem whileN_more {t : XT} {b : XS} : ∀ (n k : Nat) (η : Dv) (M : Mem), xWhileN t b n η M ≠ .no → xWhileN t b (n + k) η M = xWhileN t b n η M
  | 0, _, _, _, h => (h rfl).elim
  | n + 1, k, η, M, h => by
    have e : n + 1 + k = n + k + 1 := by omega
    rw [e]
    unfold xWhileN at h ⊢
    rcases bind_no h with ⟨c, M1, e1, h1⟩ | ⟨x, M1, e1⟩
    · rw [e1]
      show (if c = true then _ else _) = (if c = true then _ else _)
      cases c with
      | false => rfl
      | true =>
        simp only [if_true] at h1 ⊢
        rcases bind_no h1 with ⟨fl, M2, e2, h2⟩ | ⟨x, M2, e2⟩
        · rw [e2]
          cases fl with
          | nx η2 => exact whileN_more n k η2 M2 h2
          | ct η2 => exact whileN_more n k η2 M2 h2
          | bk η2 => rfl
          | rt v => rfl
        · rw [e2]; rfl
    · rw [e1]; rfl
theorem while_at {t : XT} {b : XS} {n : Nat} {η : Dv} {M : Mem} (h : xWhileN t b n η M ≠ .no) : xWhile t b η M = xWhileN t b n η M := by
  have hx : ∃ n, xWhileN t b n η M ≠ .no := ⟨n, h⟩
  unfold xWhile
  rw [dif_pos hx]
  have h2 := Classical.choose_spec hx
  generalize Classical.choose hx = m at h2
  rcases Nat.le_total n m with q | q
  · obtain ⟨k, rfl⟩ := Nat.exists_eq_add_of_le q
    exact whileN_more n k η M h
  · obtain ⟨k, rfl⟩ := Nat.exists_eq_add_of_le q
    exact (whileN_more m k η M h2).symm
section
variable {X : Cx} {W : WX} {c e o ti : Expr} {t : XT} {f g k : XE} {pos pos' : Pos}
theorem ds_while {body : List Stmt} {s : XS} (hp : PassesOwn (model X.prog X.w) X.A X.env X.xe) (hc : DT X W c t) (hb : DSs X W body s) : DS X W (.While c body [] pos) (xWhile t s) := PS.imp (ps_while hp hc hb) fun E σ H z => by
  obtain ⟨η, F, B, ρ, M, er, m, w⟩ := z
  obtain ⟨n, w⟩ : ∃ n, Wp X.K X.mg F B ρ (wAll W) (FlP X.K E) (xWhileN t s n η M) := by
    unfold xWhile at w
    split at w
    · exact ⟨_, w⟩
    · exact w.elim
  refine ⟨fun n σ' H' => ∃ η' B' ρ' M', ER X.K B' ρ' η' σ' ∧ MR X.K F B' ρ' M' H' ∧ Wp X.K X.mg F B' ρ' (wAll W) (FlP X.K E) (xWhileN t s n η' M'), ⟨n, η, B, ρ, M, er, m, w⟩, fun n σ' H' ⟨η', B', ρ', M', e', m', w'⟩ => ?_⟩
  cases n with
  | zero => exact w'.elim
  | succ n =>
    refine ⟨η', F, B', ρ', M', e', m', w'.bind fun b M1 B1 ρ1 H1 l1 m1 w1 => ?_⟩
    cases b with
    | false =>
      rw [if_neg (by decide)]
      exact Wp.ret (P := FlP X.K E) w1 m1 σ' (e'.mono l1)
    | true =>
      rw [if_pos rfl]
      refine ⟨fun σ2 H2 => ∃ η2 B2 ρ2 M2, ER X.K B2 ρ2 η2 σ2 ∧ MR X.K F B2 ρ2 M2 H2 ∧ Wp X.K X.mg F B2 ρ2 (wAll W) (FlP X.K E) (xWhileN t s n η2 M2), fun σ2 H2 h => ⟨n, Nat.lt_succ_self n, h⟩, ?_⟩
      refine ⟨η', F, B1, ρ1, M1, e'.mono l1, m1, Wp.bind w1 fun fl M4 B4 ρ4 H4 l4 m4 w4 => ?_⟩
      cases fl with
      | nx η4 => exact fun σ4 e4 => ⟨η4, B4, ρ4, M4, e4, m4, w4⟩
      | ct η4 => exact fun σ4 e4 => ⟨η4, B4, ρ4, M4, e4, m4, w4⟩
      | bk η4 => exact fun σ4 e4 => Wp.ret (P := FlP X.K E) w4 m4 σ4 e4
      | rt v => exact Wp.ret (P := FlP X.K E) w4 m4
/-- name op= e, ints -/
def xAugN (h : Int → Int → Int) (i : Nat) (f : XE) : XS := fun η M => match η[i]? with
  | some (some (.int a)) => (f η M).bind fun y M1 => match y with
    | .int b => .ok (.nx (η.set i (some (.int (h a b))))) M1
    | _ => .no
  | _ => .no
theorem ds_augN {i : Nat} {x : Str} {op : Operator} {h : Int → Int → Int} (ho : PIp X op (ipI h)) (hN : X.N.Nodup) (he : DE X W e f) (hi : X.N[i]? = some x := by rfl) (hx : Loc X.env.scope x := by first | exact Or.inl rfl | exact Or.inr rfl)
    (hf : X.fn x = true ∨ X.env.scope.names.lookup x = some .local := by first | exact .inl rfl | exact .inr rfl | assumption) : DS X W (.AugAssign (.Name x pos') op e pos) (xAugN h i f) := PS.imp (ps_aug hN hi hx he ho hf) fun E σ H z => by
  obtain ⟨η, F, B, ρ, M, er, m, w⟩ := z
  unfold xAugN at w
  split at w
  · next a ha =>
    obtain ⟨v, hv, rv⟩ := er.at' i _ ha
    cases rv
    refine ⟨_, hv, η, F, B, ρ, M, er, m, w.bind fun d M1 B1 ρ1 H1 l1 m1 w1 y ry => ?_⟩
    split at w1
    · next b =>
      cases ry
      exact ⟨a, b, rfl, rfl, Wp.ret (P := FlP X.K E) w1 m1 _ ((er.mono l1).set i (.int _))⟩
    · exact w1.elim
  · exact w.elim
def rGetL (K : PySem.W.Frag) : V → V → Hp → VK → Prop := fun x y H Q => ∃ p xs i v, x = .ref p ∧ y = .int i ∧ 0 ≤ i ∧ SqL K H p xs ∧ xs[i.toNat]? = some v ∧ Q v H
theorem get_listN : PGet X (rGetL X.K) := by
  intro pins s σ H o i ov iv Q I ro ri h
  obtain ⟨p, xs, j, v, rfl, rfl, h0, hq, hx, q⟩ := h
  cases ro
  obtain ⟨t, rfl⟩ := ri
  obtain ⟨its, r, pl, hz⟩ := I.list hq
  obtain ⟨w, ew, rw'⟩ := r.get hx
  have hl := r.length
  have hn := line63
  have hlt := (List.getElem?_eq_some_iff.mp hx).1
  exact wpAny_getItem_list pl.isList h0 (by omega) (by simpa using ew) ⟨v, H, I, rw', q⟩
/-- o[i] op= e, a list's item, ints -/
def xAugL (h : Int → Int → Int) (f g k : XE) : XS := fun η M => (f η M).bind fun l M1 => (g η M1).bind fun z M2 => match l, z with
  | .ptr n, .int j => if 0 ≤ j then match M2[n]? with
    | some (.lst ds) => match ds[j.toNat]? with
      | some (.int a) => (k η M2).bind fun y M3 => match y, M3[n]? with
        | .int b, some (.lst es) => match ixN es.length j with
          | some q => .ok (.nx η) (M3.set n (.lst (es.set q (.int (h a b)))))
          | none => .no
        | _, _ => .no
      | _ => .no
    | _ => .no
    else .no
  | _, _ => .no
theorem ds_augL {op : Operator} {h : Int → Int → Int} {tpos : Pos} (hop : PIp X op (ipI h)) (ho : DE X W o f) (hi : DE X W ti g) (he : DE X W e k) (ha : ∀ ov iv new, augStore ti ov iv new = (do holding [new, ov, iv] (setItem ov iv new); release [new, ov, iv] []; pure .next) := by intros; rfl) :
    DS X W (.AugAssign (.Subscript o ti tpos) op e pos) (xAugL h f g k) := PS.imp (ps_augS ho hi get_listN he hop set_list ha) fun E σ H z => by
  obtain ⟨η, F, B, ρ, M, er, m, w⟩ := z
  refine ⟨η, F, B, ρ, M, er, m, w.bind fun l M1 B1 ρ1 H1 l1 m1 w1 x rx => ?_⟩
  refine ⟨η, F, B1, ρ1, M1, er.mono l1, m1, w1.bind fun z M2 B2 ρ2 H2 l2 m2 w2 y ry => ?_⟩
  split at w2
  · next n j =>
    split at w2
    · next h0 =>
      split at w2
      · next ds hm =>
        split at w2
        · next a hd =>
          cases ry
          have rx2 := rx.mono l2
          cases rx2 with
          | @ptr _ ad ha =>
            obtain ⟨vs, hH, rs, hB⟩ := m2.list ha hm
            obtain ⟨v0, hv0, rv0⟩ := rs.get hd
            cases rv0
            refine ⟨ad, vs, j, _, rfl, rfl, h0, sq_of hH, hv0, ?_⟩
            refine ⟨η, F, B2, ρ2, M2, er.mono (l1.trans l2), m2, w2.bind fun d M3 B3 ρ3 H3 l3 m3 w3 u ru => ?_⟩
            split at w3
            · next b es hm3 =>
              split at w3
              · next q hq =>
                cases ru
                obtain ⟨us, hH3, rs3, hB3⟩ := m3.list (l3.at ha) hm3
                refine ⟨a, b, rfl, rfl, ad, us, j, q, rfl, rfl, hH3, by rw [← rs3.len]; exact hq, ?_⟩
                exact w3 _ _ _ (Le.refl _ _) (m3.put (o := .lst (us.set q (.int (h a b)))) (ob := .lst (es.set q (.int (h a b)))) (l3.at ha) hm3 (by intro z; cases z) ⟨_, upd_same, rs3.set q (.int _)⟩) σ (er.mono ((l1.trans l2).trans l3))
              · exact w3.elim
            · exact w3.elim
        · exact w2.elim
      · exact w2.elim
    · exact w2.elim
  · exact w2.elim
end
end Dn

/-! DnEnum: enumerate of a tuple or a list; zip of three tuples -/
namespace Dn
open PySem PySem.Spec PyProof.Rows L2 Evl
abbrev en1 (h : Heap) (l : Addr) : Heap := h.push { cls := .type "tuple_iterator", data := .fields #[.ref l, .int 0 0] }
abbrev en2 (h : Heap) (l : Addr) : Heap := (en1 h l).push { cls := .type "enumerate", data := .fields #[.none, .bool false, .ref h.objs.size, rawInt 0, .none, .none] }
theorem meets_en (l : Addr) (xs : Array Value) : Meets (Builtin.«enumerate.__new__» ⟨[.type "enumerate", .ref l], []⟩) (fun _ R s => s.heap.IsTuple l xs ∧ R (.ok (.ret (.ref (en1 s.heap l).objs.size))) { s with heap := en2 s.heap l }) :=
  .of_wp fun prog w A R s h => by
    obtain ⟨hp, g, d, tk, os⟩ := s; obtain ⟨hl1, h⟩ := h
    have hsub := sub_enumerate
    have hL1 : Heap.IsTuple (Shared.heap ⟨hp, g, d, tk, os⟩) l xs := hl1
    wp_walk using wpAny_pyIter_tuple hL1
    refine wpAny_stack_any fun st => wpAny_pure ?_
    split
    · rename_i c _ _ _ _ _
      cases (c == Value.type "enumerate")
      · wp_walk using wpAny_pyIter_tuple hL1
        exact ⟨_, rfl, h⟩
      · wp_walk using wpAny_pyIter_tuple hL1
        exact ⟨_, rfl, h⟩
    · wp_walk using wpAny_pyIter_tuple hL1
      exact ⟨_, rfl, h⟩
theorem call_en {prog : Program} {w : World} {A : Around} {E : Value → Shared → Prop} {s : Shared} {l : Addr} {xs : Array Value} {Q : Value → Shared → Prop} (hl : s.heap.IsTuple l xs)
    (h : ∀ h', IsEnum h' (s.heap.objs.size + 1) s.heap.objs.size 0 .none → h'.IsTupleIter s.heap.objs.size l 0 → (∀ c o, s.heap.get? c = some o → h'.get? c = some o) → Q (.ref (s.heap.objs.size + 1)) { s with heap := h' }) : wpAny (model prog w) A (call (.type "enumerate") [.ref l]) Q E s := by
  refine callType_new F.called_enumerate (by decide) (F.typeCall_enumerate_1 _) (F.newCall_enumerate_1 _) (fun obj => F.args_object_init_2 obj _) F.entry_enumerate_new (meets_en l xs) ⟨hl, ?_⟩
  have hz : (en1 s.heap l).objs.size = s.heap.objs.size + 1 := Heap.size_push ..
  have g2 : (en2 s.heap l).get? (en1 s.heap l).objs.size = some _ := Heap.get?_push_size _ rfl
  have g1 : (en2 s.heap l).get? s.heap.objs.size = some _ := Heap.get?_push_of_some _ (Heap.get?_push_size _ rfl)
  show _ ∧ _
  rw [hz] at g2 ⊢
  exact ⟨⟨_, g2, rfl⟩, h _ g2 ⟨_, g1, rfl, rfl⟩ fun c o q => Heap.get?_push_of_some _ (Heap.get?_push_of_some _ q)⟩
/-- the tuple at a, each item with its number -/
def ItnT (K : PySem.W.Frag) (a : Addr) : It :=
  ⟨fun i H => ∃ (xs : List V) (x : V), SqT K H a xs ∧ xs[i]? = some x, fun i H v H' => ∃ T x, v = .ref T ∧ H T = none ∧ H' = upd H T (.tup [.int (i : Nat), x]) ∧ ∀ xs, SqT K H a xs → xs[i]? = some x, fun i H => ∃ xs : List V, SqT K H a xs ∧ xs.length = i⟩
theorem turn_en {P : Program} {w : World} {K : PySem.W.Frag} {elts : List Expr} {kk : Nat} {tpos : Pos} {a e it : Addr} (hei : e ≠ it) (hea : e ≠ a) (hai : a ≠ it) :
    Turn P w K (.Tuple elts kk tpos) (ItnT K a) [e, it] e (fun i h => (∃ old, IsEnum h e it (i : Nat) old) ∧ h.IsTupleIter it a i) where
  mem := by simp
  obj := fun i h st c hc => by
    obtain ⟨⟨old, he⟩, ⟨o1, e1, _, d1⟩⟩ := st
    have e' : c = e ∨ c = it := by simpa using hc
    rcases e' with q | q
    · rw [q]; exact ⟨_, he, fun v q => nomatch q⟩
    · rw [q]; exact ⟨o1, e1, fun v q => by rw [d1] at q; cases q⟩
  keep := fun i h h' st k => by
    obtain ⟨⟨old, he⟩, h1⟩ := st
    exact ⟨⟨old, k e (by simp) _ he⟩, h1.at fun o q => k it (by simp) o q⟩
  item := by
    intro X hP hw hK hc i pins s σ H E I hf st hg
    subst hP hw hK
    obtain ⟨⟨old, he⟩, h1⟩ := st
    obtain ⟨xs, x, hq, hx⟩ := hg
    obtain ⟨its, rv, p, _⟩ := I.tuple hq
    obtain ⟨u, hu, ru⟩ := rv.get hx
    have hel : e < s.heap.objs.size := Heap.lt_size he
    have hil : it < s.heap.objs.size := by obtain ⟨_, q, _⟩ := id h1; exact Heap.lt_size q
    have hlt : i < its.toArray.size := by simpa using (List.getElem?_eq_some_iff.mp hu).1
    refine wpAny_pyNext_enum_itemC (Draws.tuple (A := X.A.in1) (show X.A.in1.handled = none from I.ok.hd hc) it a hai its.toArray) he ⟨h1, p⟩ hlt hei (by simp [hei, hea]) fun y h' tk hy ho hs' hT hsz hk => ?_
    obtain rfl : y = u := by
      have : its.toArray[i]? = some u := by simpa using hu
      rw [this] at hy
      exact (Option.some.inj hy).symm
    refine ⟨_, rfl, wpAny_letOwnedTupleGo_enum (s := { s with heap := h', toks := tk + 1 }) ho fun h'' he' sb => ?_⟩
    have hT2 : h''.get? s.heap.objs.size = some { cls := .type "tuple", data := .seq #[.int i tk, y] } := (sb.2 _ (Nat.ne_of_gt hel)).trans hT
    have new : ObjOk X.prog X.w (upd H s.heap.objs.size (.tup [.int (i : Nat), x])) h'' s.heap.objs.size (.tup [.int (i : Nat), x]) :=
      ⟨by show 2 ≤ sizeLine; decide, [.int i tk, y], .cons ⟨_, rfl⟩ (.cons ru .nil), ⟨_, hT2, rfl, _, rfl⟩⟩
    have I1 : Inv X pins σ (upd H s.heap.objs.size (.tup [.int (i : Nat), x])) { s with heap := h'', toks := tk + 1 } :=
      I.turnedNew (ch := [e, it]) (fun b ob hb q => (sb.2 b (fun z => hb (by simp [z]))).trans (hk b ob (fun z => hb (by simp [z])) (fun z => hb (by simp [z])) q)) hf (Nat.le_refl _) new
    refine ⟨.ref s.heap.objs.size, _, I1, rfl, ⟨_, x, rfl, I.hok.fresh (Nat.le_refl _), rfl, fun l hl => by rw [I.tuple_inj hl hq]; exact hx⟩, ⟨⟨y, ?_⟩, hs'.1.at fun o q => (sb.2 it (Ne.symm hei)).trans q⟩, fun b hb => ?_⟩
    · have e1 : ((i + 1 : Nat) : Int) = (i : Int) + 1 := by omega
      rw [e1]; exact he'
    · have hb' : b < s.heap.objs.size := by
        have e' : b = e ∨ b = it := by simpa using hb
        rcases e' with z | z
        · rw [z]; exact hel
        · rw [z]; exact hil
      rw [upd_ne (Nat.ne_of_lt hb')]
      exact (hf b hb).1
  done := by
    intro X hP hw hK hc i pins s σ H E I hf st hg
    subst hP hw hK
    obtain ⟨⟨old, he⟩, h1⟩ := st
    obtain ⟨xs, hq, hx⟩ := hg
    obtain ⟨its, rv, p, _⟩ := I.tuple hq
    have hl := rv.length
    have ei : i = its.toArray.size := by simp; omega
    rw [ei] at h1
    exact wpAny_pyNext_enum_endD (Draws.tuple (A := X.A.in1) (show X.A.in1.handled = none from I.ok.hd hc) it a hai its.toArray) he ⟨h1, p⟩ fun h' eb => ⟨rfl, I.turnedL (t' := s.toks) (ch := [e, it]) (fun b o hb q => eb b o (fun z => hb (by simp [z])) q) hf⟩
  self := fun A i s Q E st h => let ⟨⟨_, he⟩, _⟩ := st; wpAny_pyIter_enum he h
def iEnT (K : PySem.W.Frag) (ta : TA) : TI := fun σ H R => ta σ H fun vs H1 => ∃ a xs, vs = [.ref a] ∧ SqT K H1 a xs ∧ R (ItnT K a) H1
theorem pi_enT {X : Cx} {e : Expr} {ta : TA} {p pos tpos : Pos} {elts : List Expr} {kk : Nat} (hg : Gl X "enumerate") (hm : X.mg "enumerate" = none) (ha : PA X [e] ta) (hs : starEach [e] X.env = [(false, eval e X.env)] := by rfl) :
    PI X (.Tuple elts kk tpos) (.Call (.Name "enumerate" p) [e] [] pos) (iEnT X.K ta) := by
  refine ⟨fun pins s σ H R I h => ?_⟩
  refine Call_ (ld_blt I hg hm boot_enumerate (PyProof.Rows.callWith_type1 (thn (ha.run pos pins s σ H _ I h) fun us s1 ⟨vs, H1, I1, r1, q1⟩ => ?_) hs rfl))
  obtain ⟨a, xs, ex, hq, q⟩ := q1
  subst ex
  cases r1 with
  | cons r rr =>
    cases rr
    cases r
    obtain ⟨its, rv, p', hz⟩ := I1.tuple hq
    obtain ⟨o1, ho1, _⟩ := id p'
    have hal := Heap.lt_size ho1
    refine call_en (show s1.heap.IsTuple a its.toArray from p') fun h' he hit hk => wpAny_pyIter_enum he ?_
    have I2 : Inv X pins σ H1 { s1 with heap := h' } := I1.kept (t' := s1.toks) hk
    refine ⟨s1.heap.objs.size + 1, [s1.heap.objs.size + 1, s1.heap.objs.size], _, _, H1, rfl, I2, turn_en (Nat.succ_ne_self _) (Nat.ne_of_gt (Nat.lt_succ_of_lt hal)) (Nat.ne_of_lt hal), ⟨⟨.none, he⟩, hit⟩, fun b hb => ?_, q⟩
    have e' : b = s1.heap.objs.size + 1 ∨ b = s1.heap.objs.size := by simpa using hb
    have hle : s1.heap.objs.size ≤ b := by
      rcases e' with z | z
      · rw [z]; exact Nat.le_add_right _ _
      · rw [z]; exact Nat.le_refl _
    exact I1.fpOk hle (I1.hok.fresh hle)
/-- each with its number -/
def numD (xs : List D) : List D := xs.zipIdx.map fun q => .tup [.int (q.2 : Nat), q.1]
def xEnum (g : XA) : XI := fun η M => (g η M).bind fun ds M1 => match ds with
  | [.tup xs] => .ok (numD xs) M1
  | [.lst xs] => .ok (numD xs) M1
  | _ => .no
/-- a new pair of the number and the item -/
def YNum (f : Nat → Option V) (i : Nat) (H : Hp) (v : V) (H' : Hp) : Prop := ∃ T x, v = .ref T ∧ H T = none ∧ H' = upd H T (.tup [.int (i : Nat), x]) ∧ f i = some x
theorem walk_num {K : PySem.W.Frag} {J : It} {G : Hp → Prop} {B : Hp} {ρ : List Addr} {ds : List D} {vs : List V} (w : Walk J vs.length G (YNum (fun i => vs[i]?))) (hG : ∀ H, Ex B H → G H) (r : Rps K B ρ ds vs) : WalkD K J B ρ (numD ds) := by
  refine ⟨⟨G, _, by unfold numD; rw [List.length_map, List.length_zipIdx, r.len]; exact w, hG, fun i d h F B1 ρ1 M H x H2 l m y => ?_⟩⟩
  obtain ⟨T, x1, rfl, hT, rfl, hx⟩ := y
  unfold numD at h
  rw [List.getElem?_map, List.getElem?_zipIdx] at h
  cases hz : ds[i]? with
  | none => rw [hz] at h; cases h
  | some q =>
    rw [hz] at h
    simp at h
    obtain ⟨v1, h1, h2⟩ := r.get hz
    have hx' : vs[i]? = some x1 := hx
    rw [hx'] at h1
    cases h1
    obtain ⟨m', l'⟩ := m.new (o := .tup [.int (i : Nat), x1]) hT
    refine ⟨_, l', m', ?_, Ex.new hT⟩
    rw [← h]
    exact .tup (st_of upd_same) (.cons (.int _) (.cons (h2.mono (l.trans l')) .nil)) (.inr upd_same)
theorem walk_enT {K : PySem.W.Frag} {a : Addr} {xs : List V} : Walk (ItnT K a) xs.length (fun H => SqT K H a xs) (YNum (fun i => xs[i]?)) := by
  refine ⟨fun i _ hi q => ⟨xs, xs[i], q, by simp [hi]⟩, fun _ q => ⟨xs, q, rfl⟩, fun i H v H' _ q y => ?_⟩
  obtain ⟨T, x, h1, h2, h3, h4⟩ := y
  exact ⟨T, x, h1, h2, h3, h4 xs q⟩
theorem walk_enL {K : PySem.W.Frag} {a : Addr} {xs : List V} : Walk (Ite K a) xs.length (fun H => SqL K H a xs) (YNum (fun i => xs[i]?)) := by
  refine ⟨fun i _ hi q => ⟨xs, xs[i], q, by simp [hi]⟩, fun _ q => ⟨xs, q, Nat.le_refl _⟩, fun i H v H' _ q y => ?_⟩
  obtain ⟨T, x, h1, h2, h3, h4⟩ := y
  exact ⟨T, x, h1, h2, h3, h4 xs q⟩
section
variable {X : Cx} {W : WX} {e : Expr} {fa : XA}
theorem di_enum {p0 pos tpos : Pos} {elts : List Expr} {kk : Nat} (hg : Gl X "enumerate") (hm : X.mg "enumerate" = none) (ha : DA X W [e] fa) (hs : starEach [e] X.env = [(false, eval e X.env)] := by rfl) : DI X W (.Tuple elts kk tpos) (.Call (.Name "enumerate" p0) [e] [] pos) (xEnum fa) :=
  PI.imp (PI.or (pi_enT hg hm ha hs) (pi_enum hg hm ha hs)) fun σ H Q z => by
    obtain ⟨η, F, B, ρ, M, er, m, w⟩ := z
    unfold xEnum at w
    cases hr : fa η M with
    | no => rw [hr] at w; exact w.elim
    | ex e1 M1 =>
      rw [hr] at w
      refine .inl ⟨η, F, B, ρ, M, er, m, ?_⟩
      rw [hr]
      exact w
    | ok ds M1 =>
      rw [hr] at w
      have w : Wp X.K X.mg F B ρ (wAt W σ) _ (match ds with | [.tup xs] => R.ok (numD xs) M1 | [.lst xs] => R.ok (numD xs) M1 | _ => R.no) := w
      split at w
      · next xs =>
        refine .inl ⟨η, F, B, ρ, M, er, m, ?_⟩
        rw [hr]
        intro B' ρ' H' l m' vs rv
        cases rv with
        | cons r rr =>
          cases rr
          cases r with
          | tup e1 q1 => exact ⟨_, _, rfl, ex_t m'.ex e1, w B' ρ' H' l m' _ (walk_num walk_enT (fun H hH => ex_t hH e1) q1)⟩
      · next xs =>
        refine .inr ⟨η, F, B, ρ, M, er, m, ?_⟩
        rw [hr]
        intro B' ρ' H' l m' vs rv
        cases rv with
        | cons r rr =>
          cases rr
          cases r with
          | lst e1 q1 => exact ⟨_, _, rfl, sq_of (m'.ex _ _ e1), w B' ρ' H' l m' _ (walk_num walk_enL (fun H hH => sq_of (hH _ _ e1)) q1)⟩
      · exact w.elim
end
end Dn

/-! DnStar: first, *rest = a list or a tuple -/
namespace Dn
open PySem PySem.Spec PyProof.Rows L2 Evl
section
variable {prog : Program} {w : World} {A : Around} {E : Value → Shared → Prop} {s : Shared} {I : Addr} {fp wr : List Addr} {G : Array GenState → Array GenState → Prop} {n : Nat} {P : Nat → Value → Prop} {St : Nat → Shared → Prop}
/-- the same walk, a turn later -/
theorem later (W : WalksS prog w A I fp wr G (n + 1) P St) : WalksS prog w A I fp wr G n (fun i => P (i + 1)) (fun i => St (i + 1)) where
  sub := W.sub
  grefl := W.grefl
  gtrans := W.gtrans
  frame := fun i s h' tk st => W.frame (i + 1) s h' tk st
  item := fun i s Q E hi st hQ => W.item (i + 1) s Q E (by omega) st hQ
  done := fun s Q E st hQ => W.done s Q E st hQ
  self := fun i s Q E st hQ => W.self (i + 1) s Q E st hQ
theorem items_eq {items acc : Array Value} {n : Nat} (hn : items.size = n + 1) (h : ItemsOf (fun i v => items[i + 1]? = some v) acc n) : acc.toList = items.toList.drop 1 := by
  refine List.ext_getElem? fun j => ?_
  rw [List.getElem?_drop, Array.getElem?_toList, Array.getElem?_toList]
  by_cases hj : j < n
  · have hja : j < acc.size := by rw [h.1]; exact hj
    have e1 : acc[j]? = some acc[j] := Array.getElem?_eq_getElem hja
    rw [e1, Nat.add_comm, h.2 j _ e1]
  · rw [Array.getElem?_eq_none (by rw [h.1]; omega), Array.getElem?_eq_none (by omega)]
/-- what first, *rest take of what is walked -/
theorem star_take {items : Array Value} {T : String} {Q : List Value → Shared → Prop} (hTm : T = "str_ascii_iterator" ∨ T = "str_iterator" ∨ T = "list_iterator" ∨ T = "tuple_iterator") (W : WalksS prog w A.in1 I fp wr (fun a b => b = a) (n + 1) (fun i v => items[i]? = some v) St) (hsz : items.size = n + 1)
    (hT : ∀ i s, St i s → s.TypeIs (.ref I) T) (hst : St 0 s) (hfp : ∀ b ∈ fp, b < s.heap.objs.size) (hI : I ∈ fp) (hlive : ∀ i s, St i s → ∀ b ∈ fp, ∃ o, s.heap.get? b = some o) (hn : n ≤ sizeLine)
    (hQ : ∀ (h' : Heap) (tk : Nat), (∀ b o, b ∉ wr → s.heap.get? b = some o → h'.get? b = some o) → Q [items[0]'(by omega), .ref h'.objs.size] { s with heap := h'.push { cls := .type "list", data := .seq (items.toList.drop 1).toArray }, toks := tk }) :
    wpAny (model prog w) A (do
      let first ← holding [.ref I] (draw (.ref I) 1)
      if first.length < 1 then
        rule "unpack.star.too-few-before"
        raiseError "ValueError" s!"not enough values to unpack (expected at least {2 - 1}, got {first.length})"
      let rest ← holding first (collect (.ref I))
      let after := 2 - 1 - 1
      if rest.length < after then
        rule "unpack.star.too-few"
        raiseError "ValueError" s!"not enough values to unpack (expected at least {2 - 1}, got {1 + rest.length})"
      let mid := rest.length - after
      return first ++ [← newList (rest.take mid)] ++ rest.drop mid) Q E s := by
  have W0 := W.of_in1
  refine wpAny_bind (wpAny_holding ?_)
  show wpAny _ _ (pyNext (.ref I) >>= _) _ _ _
  refine wpAny_bind (W0.item 0 s _ _ (by omega) hst fun v s1 hv st1 mv => ?_)
  have ev : v = items[0]'(by omega) := by
    rw [Array.getElem?_eq_getElem (by omega)] at hv
    exact (Option.some.inj hv).symm
  subst ev
  refine wpAny_bind (wpAny_holding ?_)
  show wpAny _ _ (pure []) _ _ _
  refine wpAny_pure (wpAny_pure ?_)
  rw [if_neg (by simp)]
  have hfp1 : ∀ b ∈ fp, b < s1.heap.objs.size := fun b hb => by
    obtain ⟨o, ho⟩ := hlive _ _ st1 b hb
    exact Heap.lt_size ho
  refine wpAny_bind (wpAny_holding (wpAny_collect_iter hTm (later W) (fun i s st => hT (i + 1) s st) st1 hfp1 hI (fun s2 acc mv2 hacc => ?_) hn))
  have ea : acc.toList = items.toList.drop 1 := items_eq hsz hacc
  rw [ea]
  rw [if_neg (by simp)]
  have et : (items.toList.drop 1).take ((items.toList.drop 1).length - (2 - 1 - 1)) = items.toList.drop 1 := List.take_of_length_le (Nat.le_refl _)
  have ed : (items.toList.drop 1).drop ((items.toList.drop 1).length - (2 - 1 - 1)) = [] := List.drop_of_length_le (Nat.le_refl _)
  show wpAny _ _ (newList ((items.toList.drop 1).take ((items.toList.drop 1).length - (2 - 1 - 1))) >>= fun z => pure ([items[0]'(by omega)] ++ [z] ++ (items.toList.drop 1).drop ((items.toList.drop 1).length - (2 - 1 - 1)))) _ _ _
  rw [et, ed]
  have hlen : (items.toList.drop 1).length ≤ sizeLine := by
    rw [List.length_drop, Array.length_toList, hsz]
    omega
  refine wpAny_bind (wpAny_newObj_type ?_ hlen)
  refine wpAny_pure ?_
  have es : s2 = { s with heap := s2.heap, toks := s2.toks } := by
    obtain ⟨h2, g2, d2, t2, o2⟩ := s2
    obtain ⟨h1, g1, d1, t1, o1⟩ := s1
    obtain ⟨h0, g0, d0, t0, o0⟩ := s
    have a1 := mv.gens; have a2 := mv.drawn; have a3 := mv.os
    have b1 := mv2.gens; have b2 := mv2.drawn; have b3 := mv2.os
    simp only at a1 a2 a3 b1 b2 b3
    subst a1 a2 a3 b1 b2 b3
    rfl
  have hq := hQ s2.heap s2.toks fun b o hb e => mv2.heap b o hb (mv.heap b o hb e)
  rw [es]
  exact hq
end
section
variable {prog : Program} {w : World} {A : Around} {E : Value → Shared → Prop} {s : Shared}
theorem star_list {a : Addr} {items : Array Value} {Q : List Value → Shared → Prop} (hh : A.handled = none) (hl : s.heap.IsList a items) (h0 : 0 < items.size) (hn : items.size ≤ sizeLine)
    (hQ : ∀ (h' : Heap) (tk : Nat), (∀ b o, s.heap.get? b = some o → h'.get? b = some o) → Q [items[0], .ref h'.objs.size] { s with heap := h'.push { cls := .type "list", data := .seq (items.toList.drop 1).toArray }, toks := tk }) : wpAny (model prog w) A (unpackItems (.ref a) 2 (some 1)) Q E s := by
  obtain ⟨o, ho, _⟩ := id hl
  have hlt : a ≠ s.heap.objs.size := Nat.ne_of_lt (Heap.lt_size ho)
  obtain ⟨n, hsz⟩ : ∃ n, items.size = n + 1 := ⟨items.size - 1, by omega⟩
  unfold unpackItems
  refine wpAny_bind ?_
  unfold notIterableAtAll
  refine wpAny_bind (wpAny_specialOf hl.typeIs F.slot_list_iter.lookup ?_)
  refine wpAny_pure ?_
  simp only [Bool.false_eq_true, if_false]
  refine wpAny_bind (wpAny_holding (wpAny_pyIter_list hl ?_))
  have W := (Walks.list (prog := prog) (w := w) (A := A.in1) hh s.heap.objs.size a hlt items).toS
  rw [hsz] at W
  refine star_take (fp := [s.heap.objs.size, a]) (.inr (.inr (.inl rfl))) W hsz (fun i s' st => st.1.typeIs) ⟨⟨_, Heap.get?_push_size _ rfl, rfl, rfl⟩, hl.push _⟩ ?_ (by simp) ?_ (by omega) fun h' tk k => ?_
  · intro b hb
    have e' : b = s.heap.objs.size ∨ b = a := by simpa using hb
    rw [Heap.size_push]
    rcases e' with q | q
    · rw [q]; exact Nat.lt_succ_self _
    · rw [q]; exact Nat.lt_succ_of_lt (Heap.lt_size ho)
  · intro i s' st b hb
    have e' : b = s.heap.objs.size ∨ b = a := by simpa using hb
    obtain ⟨⟨o1, e1, _⟩, ⟨o2, e2, _⟩⟩ := st
    rcases e' with q | q
    · rw [q]; exact ⟨o1, e1⟩
    · rw [q]; exact ⟨o2, e2⟩
  · exact hQ h' tk fun b ob e => k b ob (by simp; exact Nat.ne_of_lt (Heap.lt_size e)) (Heap.get?_push_of_some _ e)
theorem star_tup {a : Addr} {items : Array Value} {Q : List Value → Shared → Prop} (hh : A.handled = none) (hl : s.heap.IsTuple a items) (h0 : 0 < items.size) (hn : items.size ≤ sizeLine)
    (hQ : ∀ (h' : Heap) (tk : Nat), (∀ b o, s.heap.get? b = some o → h'.get? b = some o) → Q [items[0], .ref h'.objs.size] { s with heap := h'.push { cls := .type "list", data := .seq (items.toList.drop 1).toArray }, toks := tk }) : wpAny (model prog w) A (unpackItems (.ref a) 2 (some 1)) Q E s := by
  obtain ⟨o, ho, _⟩ := id hl
  have hlt : a ≠ s.heap.objs.size := Nat.ne_of_lt (Heap.lt_size ho)
  obtain ⟨n, hsz⟩ : ∃ n, items.size = n + 1 := ⟨items.size - 1, by omega⟩
  unfold unpackItems
  refine wpAny_bind ?_
  unfold notIterableAtAll
  refine wpAny_bind (wpAny_specialOf hl.typeIs slot_tuple_iter.lookup ?_)
  refine wpAny_pure ?_
  simp only [Bool.false_eq_true, if_false]
  refine wpAny_bind (wpAny_holding (wpAny_pyIter_tuple hl ?_))
  have W := (Walks.tuple (prog := prog) (w := w) (A := A.in1) hh s.heap.objs.size a hlt items).toS
  rw [hsz] at W
  refine star_take (fp := [s.heap.objs.size, a]) (.inr (.inr (.inr rfl))) W hsz (fun i s' st => st.1.typeIs) ⟨⟨_, Heap.get?_push_size _ rfl, rfl, rfl⟩, hl.push _⟩ ?_ (by simp) ?_ (by omega) fun h' tk k => ?_
  · intro b hb
    have e' : b = s.heap.objs.size ∨ b = a := by simpa using hb
    rw [Heap.size_push]
    rcases e' with q | q
    · rw [q]; exact Nat.lt_succ_self _
    · rw [q]; exact Nat.lt_succ_of_lt (Heap.lt_size ho)
  · intro i s' st b hb
    have e' : b = s.heap.objs.size ∨ b = a := by simpa using hb
    obtain ⟨⟨o1, e1, _⟩, ⟨o2, e2, _⟩⟩ := st
    rcases e' with q | q
    · rw [q]; exact ⟨o1, e1⟩
    · rw [q]; exact ⟨o2, e2⟩
  · exact hQ h' tk fun b ob e => k b ob (by simp; exact Nat.ne_of_lt (Heap.lt_size e)) (Heap.get?_push_of_some _ e)
end
section
variable {X : Cx} {W : WX} {t1 t2 : Expr} {pos p2 : Pos} {kk : Nat}
def gStar (K : PySem.W.Frag) (t : TGs) : TG := fun v σ H Q => ∃ a xs x rest, v = .ref a ∧ (SqL K H a xs ∨ SqT K H a xs) ∧ xs = x :: rest ∧ ∀ p, H p = none → t [x, .ref p] σ (upd H p (.lst rest)) Q
theorem pg_star {t : TGs} (hc : X.calm = true) (h : PGs X [t1, t2] t) (hE : assignEach [t1, .Starred t2 p2] X.env = [(false, assign t1 X.env), (true, assign t2 X.env)]) (hE2 : assignEach [t1, t2] X.env = [(false, assign t1 X.env), (false, assign t2 X.env)]) : PG X (.Tuple [t1, .Starred t2 p2] kk pos) (gStar X.K t) := by
  refine ⟨fun pins s σ H v u Q I r hw => ?_⟩
  obtain ⟨a, xs, x, rest, rfl, hq, rfl, hw⟩ := hw
  cases r
  show wpAny _ _ (do standAt pos; unpack (.ref a) (assignEach [t1, .Starred t2 p2] X.env)) _ _ _
  refine wpAny_bind (wpAny_standAt ?_)
  unfold unpack
  rw [hE]
  show wpAny _ _ (holding [.ref a] (unpackItems (.ref a) 2 (some 1)) >>= fun us => assignInOrder [assign t1 X.env, assign t2 X.env] us) _ _ _
  have done : ∀ (its : List Value) (h0 : 0 < its.toArray.size), Vals (x :: rest) its → (x :: rest).length ≤ sizeLine → ∀ (h' : Heap) (tk : Nat), (∀ b o, s.heap.get? b = some o → h'.get? b = some o) →
      wpAny (model X.prog X.w) X.A (assignInOrder [assign t1 X.env, assign t2 X.env] [its.toArray[0], .ref h'.objs.size]) (fun _ s' => ∃ σ' H', Inv X pins σ' H' s' ∧ Q σ' H') X.xe { s with heap := h'.push { cls := .type "list", data := .seq (its.toArray.toList.drop 1).toArray }, toks := tk } := by
    intro its h0 rv hz h' tk k
    cases rv with
    | @cons _ y _ ys rx rr =>
      have I1 : Inv X pins σ H { s with heap := h', toks := tk } := I.kept (t' := tk) k
      have I2 : Inv X pins σ (upd H h'.objs.size (.lst rest)) { s with heap := h'.push { cls := .type "list", data := .seq ys.toArray }, toks := tk } :=
        I1.laid (t' := tk) (fun b o e => Heap.get?_push_of_some _ e) (Nat.le_refl _) (show ObjOk X.prog X.w _ _ _ (.lst rest) from ⟨by simp at hz; omega, ys, 0, rr, Heap.get?_push_size _ rfl⟩)
      have hr := h.run pins _ σ _ [x, .ref h'.objs.size] [y, .ref h'.objs.size] Q I2 (.cons rx (.cons rfl .nil)) (hw _ (I1.hok.fresh (Nat.le_refl _)))
      rw [hE2] at hr
      exact hr
  rcases hq with hq | hq
  · obtain ⟨its, rv, p, hz⟩ := I.list hq
    have hl := rv.length
    have h0 : 0 < its.toArray.size := by simp at hl ⊢; omega
    exact wpAny_bind (wpAny_holding (star_list (I.ok.hd hc) p.isList h0 (by simp at hl ⊢; simp at hz; omega) fun h' tk k => done its h0 rv hz h' tk k))
  · obtain ⟨its, rv, p, hz⟩ := I.tuple hq
    have hl := rv.length
    have h0 : 0 < its.toArray.size := by simp at hl ⊢; omega
    exact wpAny_bind (wpAny_holding (star_tup (I.ok.hd hc) p h0 (by simp at hl ⊢; simp at hz; omega) fun h' tk k => done its h0 rv hz h' tk k))
/-- first, *rest: the rest is a new list that may change -/
def asSeq (M : Mem) (d : D) : Option (List D) := match asL M d with
  | some xs => some xs
  | none => asT d
def xgStar (gs : List D → Dv → Mem → R Dv) : XG := fun d η M => match asSeq M d with
  | some (x :: rest) => gs [x, .ptr M.length] η (M ++ [.lst rest])
  | _ => .no
theorem dg_star {ts : List Nat} {gs : List D → Dv → Mem → R Dv} (hc : X.calm = true) (h : DGs X W [t1, t2] ts gs) (hE : assignEach [t1, .Starred t2 p2] X.env = [(false, assign t1 X.env), (true, assign t2 X.env)] := by rfl) (hE2 : assignEach [t1, t2] X.env = [(false, assign t1 X.env), (false, assign t2 X.env)] := by rfl) :
    DG X W (.Tuple [t1, .Starred t2 p2] kk pos) ts (xgStar gs) := PG.imp (pg_star hc h hE hE2) fun v σ H Q z => by
  obtain ⟨d, η, F, B, ρ, M, r, er, m, w⟩ := z
  unfold xgStar at w
  split at w
  · next x rest hs =>
    have go : ∀ (vs : List V), Rps X.K B ρ (x :: rest) vs → ∃ y ys, vs = y :: ys ∧ ∀ p, H p = none → tGs X.K X.mg W ts gs [y, .ref p] σ (upd H p (.lst ys)) Q := by
      intro vs rs
      cases rs with
      | @cons _ y _ ys r1 r2 =>
        refine ⟨y, ys, rfl, fun p hp => ?_⟩
        obtain ⟨m2, l2⟩ := m.alloc (o := .lst ys) (ob := .lst rest) hp ⟨ys, upd_same, r2.mono ⟨Ex.refl B, [p], rfl⟩⟩
        refine ⟨[x, .ptr M.length], η, F, _, _, _, .cons (r1.mono l2) (.cons (.ptr ?_) .nil), er.mono l2, m2, w.mono l2⟩
        rw [← m.len]
        simp
    unfold asSeq at hs
    cases hl : asL M d with
    | some xs =>
      rw [hl] at hs
      cases hs
      obtain ⟨a, vs, rfl, hq, rs⟩ := asL_snd m r hl
      obtain ⟨y, ys, e, g⟩ := go vs rs
      exact ⟨a, vs, y, ys, rfl, .inl hq, e, g⟩
    | none =>
      rw [hl] at hs
      obtain ⟨a, vs, rfl, hq, rs⟩ := asT_snd m r hs
      obtain ⟨y, ys, e, g⟩ := go vs rs
      exact ⟨a, vs, y, ys, rfl, .inr hq, e, g⟩
  · exact w.elim
end
end Dn

/-! DnLc2: a comprehension with two generators -/
namespace Dn
open PySem PySem.Spec PyProof.Rows L2 Evl
def xLc2L (gt : XG) (t : XT) (fi1 : XI) (g1 : XG) (t1 : XT) (f : XE) (vs1 : List Nat) : List D → Dv → Mem → R (List D)
  | [], _, M => .ok [] M
  | d :: ds, η, M => (gt d η M).calm.bind fun η1 M1 => (t η1 M1).calm.bind fun b M2 => if b = true then (fi1 η1 M2).calm.bind fun es M3 => if es.length ≤ 1000 then (xLcL g1 t1 f es (wipeD η1 vs1) M3).bind fun r1 M4 => (xLc2L gt t fi1 g1 t1 f vs1 ds η M4).bind fun r M5 => .ok (r1 ++ r) M5 else .no
    else xLc2L gt t fi1 g1 t1 f vs1 ds η M2
def xLc2 (fin : List D → Mem → R D) (i : XI) (g : XG) (t : XT) (i1 : XI) (g1 : XG) (t1 : XT) (f : XE) (vs vs1 : List Nat) : XE := fun η M => (i η M).bind fun ds M1 => if ds.length ≤ 1000 then (xLc2L g t i1 g1 t1 f vs1 ds (wipeD η vs) M1).bind fin else .no
section
variable {X : Cx} {W : WX} {tg it tg1 it1 elt : Expr} {pos : Pos} {f : XE}
theorem wipe_idem (vs : List Nat) (τ : L2.St) : L2.wipe (L2.wipe τ vs) vs = L2.wipe τ vs := by
  apply wipe_off (ts := vs) (σ := τ) (σ' := L2.wipe τ vs)
  · exact ⟨L2.wipe_length _ _, fun j hj => L2.wipe_out hj⟩
  · intro t ht; exact ht
theorem same_upd {H : Hp} {p : Addr} {o : HO} (h : H p = some o) : upd H p o = H := by
  funext q
  by_cases hq : q = p
  · subst hq; rw [upd_same, h]
  · rw [upd_ne hq]
theorem lc2_go {own : List (Str × Nat)} {fi fi1 : XI} {ts ts1 vs1 : List Nat} {gt g1 : XG} {t t1 : XT} {W' : WX} {fin : List D → Mem → R D} (hf : FinOk fin) (hts : ∀ i ∈ ts, i ∈ own.map (·.2)) (hts1 : ∀ i ∈ ts1, i ∈ vs1) (σ : L2.St) (H : Hp) (Q : VK) (z : tE X.K X.mg W (xLc2 fin fi gt t fi1 g1 t1 f (own.map (·.2)) vs1) σ H Q) :
    tLc2 (tI X.K X.mg W fi) (tG X.K X.mg W' ts gt) (tT X.K X.mg W' t) (tI X.K X.mg W' fi1) (tG X.K X.mg W' ts1 g1) (tT X.K X.mg W' t1) (tE X.K X.mg W' f) (own.map (·.2)) vs1 σ H Q := by
  obtain ⟨η, F, B, ρ, M, er, m, w⟩ := z
  refine ⟨η, F, B, ρ, M, er, m, w.bind fun ds M1 B1 ρ1 H1 l1 m1 w1 J wd => fun p hp => ?_⟩
  split at w1
  case isFalse => exact w1.elim
  case isTrue hlen =>
  obtain ⟨G, Y, wk, hG, hY⟩ := wd.w
  have hFp : F p = none := fresh_back m1.fr hp
  let Pv : Nat → Hp → Prop := fun i H' => ∃ B' ρ' M' acc dacc, MR X.K F B' ρ' M' H' ∧ Le B1 ρ1 B' ρ' ∧ H' p = some (.lst acc) ∧ B' p = none ∧ p ∉ ρ' ∧ Rps X.K B' ρ' dacc acc ∧ dacc.length ≤ i * 1000 ∧
    Wp X.K X.mg F B' ρ' (wAt W σ) (fun d B' ρ' H' => ∀ v, Rp X.K B' ρ' d v → Q v H') ((xLc2L gt t fi1 g1 t1 f vs1 (ds.drop i) (wipeD η (own.map (·.2))) M').bind fun r M2 => fin (dacc ++ r) M2)
  refine ⟨fun i k H' => k = ds.length - i ∧ i ≤ ds.length ∧ Pv i H', ⟨ds.length, rfl, Nat.zero_le _, B1, ρ1, M1, [], [], m1.more (Ex.new hp), Le.refl _ _, upd_same, fresh_back m1.ex hp, m1.notin hp, .nil, by simp, by simpa using w1⟩, ?_⟩
  rintro i k H' ⟨rfl, hi, B', ρ', M', acc, dacc, m', l', hp', hB', hρ', ra, hla, w'⟩
  have gG := hG H' (l'.1.trans m'.ex)
  by_cases hlt : i < ds.length
  case neg =>
    have e : i = ds.length := by omega
    subst e
    refine .inl ⟨wk.stops H' gG, ?_⟩
    rw [List.drop_length] at w'
    have w2 : Wp X.K X.mg F B' ρ' (wAt W σ) (fun d B' ρ' H' => ∀ v, Rp X.K B' ρ' d v → Q v H') (fin (dacc ++ []) M') := w'
    rw [List.append_nil] at w2
    have hq := hf X.K X.mg (wAt W σ) F B' _ ρ' M' dacc acc Q (m'.hide hFp hB' hρ') ra w2 p (if_pos rfl)
    rw [hide_upd hp'] at hq
    exact hq
  case pos =>
  refine .inr ⟨wk.goes i H' hlt gG, Pv (i + 1), fun H2 p2 => ⟨ds.length - (i + 1), by omega, rfl, hlt, p2⟩, fun x H2 y0 => ?_⟩
  have y := wk.yields i H' x H2 hlt gG y0
  have hd : ds[i]? = some ds[i] := List.getElem?_eq_getElem hlt
  rw [List.drop_eq_getElem_cons hlt] at w'
  have m'' : MR X.K (upd F p (.lst acc)) B' ρ' M' H' := add_frame m' hp' hB' hρ'
  obtain ⟨B2, l2, m2, r2, _⟩ := hY i ds[i] hd _ B' ρ' M' H' x H2 l' m'' y
  unfold xLc2L at w'
  have e' : ER X.K B2 ρ' (wipeD η (own.map (·.2))) (L2.wipe σ (own.map (·.2))) := (er.mono ((l1.trans l'))).mono l2 |>.wipe _
  cases h1 : gt ds[i] (wipeD η (own.map (·.2))) M' with
  | ex e0 M0 => rw [h1] at w'; exact w'.elim
  | no => rw [h1] at w'; exact w'.elim
  | ok η3 M3 =>
  simp only [h1, R.calm_ok, R.bind_ok] at w'
  refine ⟨ds[i], _, _, B2, ρ', M', r2, e', m2, ?_⟩
  rw [h1]
  intro B3 ρ3 H3 l3 m3 σ3 e3 off3
  refine ⟨wipe_off off3 hts ▸ wipe_idem _ _, ?_⟩
  cases h2 : t η3 M3 with
  | ex e0 M0 => rw [h2] at w'; exact w'.elim
  | no => rw [h2] at w'; exact w'.elim
  | ok bb M4 =>
  simp only [h2, R.calm_ok, R.bind_ok] at w'
  refine ⟨η3, _, B3, ρ3, M3, e3, m3, ?_⟩
  rw [h2]
  intro B4 ρ4 H4 l4 m4
  have lz : Le B' ρ' B4 ρ4 := (l2.trans l3).trans l4
  cases bb with
  | false =>
    simp only [Bool.false_eq_true, if_false] at w' ⊢
    have hp4 : H4 p = some (.lst acc) := m4.fr p _ upd_same
    obtain ⟨hB4, hρ4⟩ := m4.dj p _ upd_same
    have m5 := (drop_frame m4 hFp (.lst acc)).1
    rw [same_upd hp4] at m5
    exact ⟨B4, ρ4, M4, acc, dacc, m5, l'.trans lz, hp4, hB4, hρ4, ra.mono lz, by omega, w'.mono lz⟩
  | true =>
    simp only [if_true] at w' ⊢
    cases h3 : fi1 η3 M4 with
    | ex e0 M0 => rw [h3] at w'; exact w'.elim
    | no => rw [h3] at w'; exact w'.elim
    | ok es M5 =>
    simp only [h3, R.calm_ok, R.bind_ok] at w'
    refine ⟨η3, _, B4, ρ4, M4, e3.mono l4, m4, ?_⟩
    rw [h3]
    intro B5 ρ5 H5 l5 m5 J1 wd1
    split at w'
    case isFalse => exact w'.elim
    case isTrue hlen1 =>
    obtain ⟨G1, Y1, wk1, hG1, hY1⟩ := wd1.w
    have lz5 : Le B' ρ' B5 ρ5 := lz.trans l5
    have hp5 : H5 p = some (.lst acc) := m5.fr p _ upd_same
    obtain ⟨m6, hB6, hρ6⟩ := drop_frame m5 hFp (.lst acc)
    rw [same_upd hp5] at m6
    let Pw : Nat → Hp → Prop := fun j H' => ∃ B' ρ' M' acc dacc, MR X.K F B' ρ' M' H' ∧ Le B5 ρ5 B' ρ' ∧ H' p = some (.lst acc) ∧ B' p = none ∧ p ∉ ρ' ∧ Rps X.K B' ρ' dacc acc ∧ dacc.length ≤ i * 1000 + j ∧
      Wp X.K X.mg F B' ρ' (wAt W σ) (fun d B' ρ' H' => ∀ v, Rp X.K B' ρ' d v → Q v H') (((xLcL g1 t1 f (es.drop j) (wipeD η3 vs1) M').bind fun r1 M4 => (xLc2L gt t fi1 g1 t1 f vs1 (ds.drop (i + 1)) (wipeD η (own.map (·.2))) M4).bind fun r M5 => .ok (r1 ++ r) M5).bind fun r M2 => fin (dacc ++ r) M2)
    refine ⟨fun j k H' => k = es.length - j ∧ j ≤ es.length ∧ Pw j H', ⟨es.length, rfl, Nat.zero_le _, B5, ρ5, M5, acc, dacc, m6, Le.refl _ _, hp5, hB6, hρ6, ra.mono lz5, by omega, by simpa using w'.mono lz5⟩, ?_⟩
    rintro j k HA ⟨rfl, hj, BA, ρA, MA, accA, daccA, mA, lA, hpA, hBA, hρA, raA, hlA, wA⟩
    have gA := hG1 HA (lA.1.trans mA.ex)
    by_cases hltj : j < es.length
    case neg =>
      have ej : j = es.length := by omega
      subst ej
      refine .inl ⟨wk1.stops HA gA, BA, ρA, MA, accA, daccA, mA, (l'.trans lz5).trans lA, hpA, hBA, hρA, raA, by omega, ?_⟩
      rw [List.drop_length] at wA
      unfold xLcL at wA
      simp only [R.bind_ok, List.nil_append] at wA
      have er0 : ((xLc2L gt t fi1 g1 t1 f vs1 (ds.drop (i + 1)) (wipeD η (own.map (·.2))) MA).bind fun r M5 => R.ok r M5) = xLc2L gt t fi1 g1 t1 f vs1 (ds.drop (i + 1)) (wipeD η (own.map (·.2))) MA := by
        cases xLc2L gt t fi1 g1 t1 f vs1 (ds.drop (i + 1)) (wipeD η (own.map (·.2))) MA <;> rfl
      rw [er0] at wA
      exact wA
    case pos =>
    refine .inr ⟨wk1.goes j HA hltj gA, Pw (j + 1), fun H2 p2 => ⟨es.length - (j + 1), by omega, rfl, hltj, p2⟩, fun x1 HB y0 => ?_⟩
    have yy := wk1.yields j HA x1 HB hltj gA y0
    have hde : es[j]? = some es[j] := List.getElem?_eq_getElem hltj
    rw [List.drop_eq_getElem_cons hltj] at wA
    have mA' : MR X.K (upd F p (.lst accA)) BA ρA MA HA := add_frame mA hpA hBA hρA
    obtain ⟨BB, lB, mB, rB, _⟩ := hY1 j es[j] hde _ BA ρA MA HA x1 HB lA mA' yy
    unfold xLcL at wA
    have eB : ER X.K BB ρA (wipeD η3 vs1) (L2.wipe σ3 vs1) := (((e3.mono l4).mono l5).mono lA).mono lB |>.wipe _
    cases k1 : g1 es[j] (wipeD η3 vs1) MA with
    | ex e0 M0 => rw [k1] at wA; exact wA.elim
    | no => rw [k1] at wA; exact wA.elim
    | ok ηC MC =>
    simp only [k1, R.calm_ok, R.bind_ok] at wA
    refine ⟨es[j], _, _, BB, ρA, MA, rB, eB, mB, ?_⟩
    rw [k1]
    intro BC ρC HC lC mC σC eC offC
    refine ⟨wipe_off offC hts1 ▸ wipe_idem _ _, ?_⟩
    cases k2 : t1 ηC MC with
    | ex e0 M0 => rw [k2] at wA; exact wA.elim
    | no => rw [k2] at wA; exact wA.elim
    | ok b1 MD =>
    simp only [k2, R.calm_ok, R.bind_ok] at wA
    refine ⟨ηC, _, BC, ρC, MC, eC, mC, ?_⟩
    rw [k2]
    intro BD ρD HD lD mD
    have lw : Le BA ρA BD ρD := (lB.trans lC).trans lD
    cases b1 with
    | false =>
      simp only [Bool.false_eq_true, if_false] at wA ⊢
      have hpD : HD p = some (.lst accA) := mD.fr p _ upd_same
      obtain ⟨hBD, hρD⟩ := mD.dj p _ upd_same
      have mE := (drop_frame mD hFp (.lst accA)).1
      rw [same_upd hpD] at mE
      exact ⟨BD, ρD, MD, accA, daccA, mE, lA.trans lw, hpD, hBD, hρD, raA.mono lw, by omega, wA.mono lw⟩
    | true =>
      simp only [if_true] at wA ⊢
      cases k3 : f ηC MD with
      | ex e0 M0 => rw [k3] at wA; exact wA.elim
      | no => rw [k3] at wA; exact wA.elim
      | ok vy ME =>
      simp only [k3, R.calm_ok, R.bind_ok] at wA
      refine ⟨ηC, _, BD, ρD, MD, eC.mono lD, mD, ?_⟩
      rw [k3]
      intro BE ρE HE lE mE v5 r5
      have lx : Le BA ρA BE ρE := lw.trans lE
      have hpE : HE p = some (.lst accA) := mE.fr p _ upd_same
      obtain ⟨mF, hBF, hρF⟩ := drop_frame mE hFp (.lst (accA ++ [v5]))
      have hl := raA.len
      have hi1 : i < 1000 := by omega
      refine ⟨accA, hpE, by rw [← hl, sizeLine_eq]; omega, BE, ρE, ME, accA ++ [v5], daccA ++ [vy], mF, lA.trans lx, upd_same, hBF, hρF, (raA.mono lx).snoc r5, by simp; omega, ?_⟩
      have w5 := wA.mono lx
      cases k4 : xLcL g1 t1 f (es.drop (j + 1)) (wipeD η3 vs1) ME with
      | ex e0 M0 => rw [k4] at w5; exact w5
      | no => rw [k4] at w5; exact w5.elim
      | ok r6 M6 =>
        simp only [k4, R.bind_ok] at w5 ⊢
        cases k5 : xLc2L gt t fi1 g1 t1 f vs1 (ds.drop (i + 1)) (wipeD η (own.map (·.2))) M6 with
        | ex e0 M0 => rw [k5] at w5; exact w5
        | no => rw [k5] at w5; exact w5.elim
        | ok r7 M7 =>
          simp only [k5, R.bind_ok] at w5 ⊢
          rw [List.append_assoc]
          exact w5
theorem de_lc2 {ifs ifs1 : List Expr} {scope : Scope} {own : List (Str × Nat)} {fi fi1 : XI} {ts ts1 vs1 : List Nat} {gt g1 : XG} {t t1 : XT} {W' : WX} {fin : List D → Mem → R D} (hf : FinOk fin) (hc : X.calm = true) (hN : X.N.Nodup) (hi : DI X W tg it fi) (ok : BlkOk X.N X.env.scope scope own)
    (hg : ∀ (s : Shared) (H : Hp) (C : Addr) (cl : List (Str × Addr)) (fp : List Addr), DG (X.blk s H scope (compEnvC scope cl C X.env) fp) W' tg ts gt) (ht : ∀ (s : Shared) (H : Hp) (C : Addr) (cl : List (Str × Addr)) (fp : List Addr), DTs (X.blk s H scope (compEnvC scope cl C X.env) fp) W' ifs t)
    (hi1 : ∀ (s : Shared) (H : Hp) (C : Addr) (cl : List (Str × Addr)) (fp : List Addr), DI (X.blk s H scope (compEnvC scope cl C X.env) fp) W' tg1 it1 fi1)
    (hg1 : ∀ (s : Shared) (H : Hp) (C : Addr) (cl : List (Str × Addr)) (fp : List Addr), DG (X.blk s H scope (compEnvC scope cl C X.env) fp) W' tg1 ts1 g1) (ht1 : ∀ (s : Shared) (H : Hp) (C : Addr) (cl : List (Str × Addr)) (fp : List Addr), DTs (X.blk s H scope (compEnvC scope cl C X.env) fp) W' ifs1 t1)
    (he : ∀ (s : Shared) (H : Hp) (C : Addr) (cl : List (Str × Addr)) (fp : List Addr), DE (X.blk s H scope (compEnvC scope cl C X.env) fp) W' elt f) (hv : ∀ i ∈ vs1, i ∈ own.map (·.2)) (hts : ∀ i ∈ ts, i ∈ own.map (·.2)) (hts1 : ∀ i ∈ ts1, i ∈ vs1)
    (hs : ∀ x, foldedSetIterable it X.env x = pure x := by intro _; rfl) (hs1 : ∀ env x, foldedSetIterable it1 env x = pure x := by intro _ _; rfl) :
    DE X W (.ListComp elt [⟨tg, it, ifs, 0⟩, ⟨tg1, it1, ifs1, 0⟩] scope pos) (xLc2 fin fi gt t fi1 g1 t1 f (own.map (·.2)) vs1) :=
  PE.imp (pe_lc2 (g := tG X.K X.mg W' ts gt) (tt := tT X.K X.mg W' t) (wi1 := tI X.K X.mg W' fi1) (g1 := tG X.K X.mg W' ts1 g1) (tt1 := tT X.K X.mg W' t1) (te := tE X.K X.mg W' f) hc hN hi ok hv hg ht hi1 hg1 ht1 he hs hs1) fun σ H Q z => lc2_go hf hts hts1 σ H Q z
end
end Dn

/-! DnSeat: dicts by ints and texts that change, list * int, min of a list, extend; zip of three tuples -/
namespace Dn
open PySem PySem.Spec PyProof.Rows L2 Evl
section
variable {X : Cx} {W : WX} {o i e value a b : Expr} {pos pos' apos : Pos} {f g h : XE}
/-- {} that changes -/
def xDict0K : XE := fun _ M => .ok (.ptr M.length) (M ++ [.dK []])
def xDict0T : XE := fun _ M => .ok (.ptr M.length) (M ++ [.dT []])
theorem de_dict0K : DE X W (.Dict [] [] pos) xDict0K := PE.imp pe_dnewK fun σ H Q z => by
  obtain ⟨η, F, B, ρ, M, er, m, w⟩ := z
  intro p hp
  obtain ⟨m2, l2⟩ := m.alloc (o := .dK []) (ob := .dK []) hp ⟨[], upd_same, .nil⟩
  exact w _ _ _ l2 m2 _ (.ptr (by rw [← m.len]; simp))
theorem de_dict0T : DE X W (.Dict [] [] pos) xDict0T := PE.imp pe_dnewT fun σ H Q z => by
  obtain ⟨η, F, B, ρ, M, er, m, w⟩ := z
  intro p hp
  obtain ⟨m2, l2⟩ := m.alloc (o := .dT []) (ob := .dT []) hp ⟨[], upd_same, .nil⟩
  exact w _ _ _ l2 m2 _ (.ptr (by rw [← m.len]; simp))
/-- d[y] = v, by an int or a text -/
def xDPutK (v o i : XE) : XS := fun η M => (v η M).bind fun d M1 => (o η M1).bind fun l M2 => (i η M2).bind fun y M3 => match l with
  | .ptr n => match M3[n]? with
    | some (.dK kds) => match asK1 y with
      | some k => if kds.length < 100000 then .ok (.nx η) (M3.set n (.dK (putD kds k d))) else .no
      | none => .no
    | _ => .no
  | _ => .no
theorem ds_dputK {k : Nat} (hr : Room k X.A) (hv : DE X W value h) (ho : DE X W o f) (hi : DE X W i g) (hs : swapsWith value (some (.Subscript o i pos')) pos.line X.env = pure false := by rfl) : DS X W (.Assign [.Subscript o i pos'] value pos) (xDPutK h f g) :=
  PS.imp (ps_dput (by have := hr.un; omega) ho hi hv hs) fun E σ H z => by
    obtain ⟨η, F, B, ρ, M, er, m, w⟩ := z
    refine ⟨η, F, B, ρ, M, er, m, w.bind fun dv M1 B1 ρ1 H1 l1 m1 w1 v rv => ?_⟩
    refine ⟨η, F, B1, ρ1, M1, er.mono l1, m1, w1.bind fun dx M2 B2 ρ2 H2 l2 m2 w2 x rx => ?_⟩
    refine ⟨η, F, B2, ρ2, M2, er.mono (l1.trans l2), m2, w2.bind fun dy M3 B3 ρ3 H3 l3 m3 w3 y ry => ?_⟩
    have rx3 := rx.mono l3
    cases rx3 with
    | @ptr n a ha =>
      dsimp only at w3
      split at w3
      · next kds hm =>
        split at w3
        · next ky hk =>
          split at w3
          · next hlt =>
            obtain ⟨kvs, hH, pr, _⟩ := m3.dictK ha hm
            have ey := asK1_snd ry hk
            subst ey
            have hl := pr_len pr
            refine ⟨a, _, rfl, DPut.k (v := v) hH (by rw [sizeLine_eq]; omega), ?_⟩
            exact w3 _ _ _ (Le.refl _ _) (m3.put (o := .dK (putK kvs ky v)) (ob := .dK (putD kds ky dv)) ha hm (by intro z; cases z) ⟨_, upd_same, rpk_of (putD_snd pr (rv.mono (l2.trans l3)))⟩) σ (er.mono ((l1.trans l2).trans l3))
          · exact w3.elim
        · exact w3.elim
      · exact w3.elim
    | _ => exact w3.elim
/-- a list times an int: a new list that changes -/
def repD (k : Int) (ds : List D) : List D := (List.replicate k.toNat ds).flatten
theorem rep_rel {K : PySem.W.Frag} {B : Hp} {ρ : List Addr} {ds : List D} {vs : List V} (r : Rps K B ρ ds vs) : ∀ n : Nat, Rps K B ρ (List.replicate n ds).flatten (List.replicate n vs).flatten
  | 0 => .nil
  | n + 1 => by
    rw [List.replicate_succ, List.replicate_succ, List.flatten_cons, List.flatten_cons]
    exact r.app (rep_rel r n)
def xRepM (f g : XE) : XE := fun η M => (f η M).bind fun x M1 => (g η M1).bind fun y M2 => match asP M2 x, y with
  | some ds, .int k => if 0 ≤ k ∧ k ≤ 1000 ∧ ds.length ≤ 1000 then .ok (.ptr M2.length) (M2 ++ [.lst (repD k ds)]) else .no
  | _, _ => .no
theorem de_repM (ha : DE X W a f) (hb : DE X W b g) : DE X W (.BinOp a .Mult b pos) (xRepM f g) := PE.imp (pe_op op_rep ha hb) fun σ H Q z => by
  obtain ⟨η, F, B, ρ, M, er, m, w⟩ := z
  refine ⟨η, F, B, ρ, M, er, m, w.bind fun dx M1 B1 ρ1 H1 l1 m1 w1 x rx => ?_⟩
  refine ⟨η, F, B1, ρ1, M1, er.mono l1, m1, w1.bind fun dy M2 B2 ρ2 H2 l2 m2 w2 y ry => ?_⟩
  split at w2
  · next ds k hd =>
    split at w2
    · next hk =>
      cases ry
      obtain ⟨ad, vs, rfl, hH, rs⟩ := asP_snd m2 (rx.mono l2) hd
      have hl := rs.len
      have hz : vs.length * k.toNat ≤ sizeLine := by
        rw [sizeLine_eq]
        exact Nat.le_trans (Nat.mul_le_mul (show vs.length ≤ 1000 by omega) (show k.toNat ≤ 1000 by omega)) (by decide)
      exact ⟨ad, k, vs, rfl, rfl, hH, by omega, by omega, hz, putM m2 (rep_rel rs k.toNat) w2⟩
    · exact w2.elim
  · exact w2.elim
/-- min of a list of ints -/
def minL : List Int → Int
  | [] => 0
  | [x] => x
  | x :: r => min x (minL r)
theorem minL_mem : ∀ {ns : List Int}, ns ≠ [] → minL ns ∈ ns ∧ ∀ y ∈ ns, minL ns ≤ y
  | [], h => (h rfl).elim
  | [x], _ => by simp [minL]
  | x :: y :: r, _ => by
    obtain ⟨h1, h2⟩ := minL_mem (ns := y :: r) (by simp)
    have e : minL (x :: y :: r) = min x (minL (y :: r)) := rfl
    rw [e]
    refine ⟨?_, fun z hz => ?_⟩
    · by_cases q : x ≤ minL (y :: r)
      · rw [Int.min_eq_left q]; exact List.mem_cons_self ..
      · rw [Int.min_eq_right (by omega)]; exact List.mem_cons_of_mem _ h1
    · rcases List.mem_cons.mp hz with rfl | hz
      · exact Int.min_le_left _ _
      · exact Int.le_trans (Int.min_le_right _ _) (h2 z hz)
def bMinL : OpC := one fun M d => (asL M d).bind fun ds => (asIs ds).bind fun ns => if ns = [] then none else some (.int (minL ns))
theorem cd_minL (hc : X.calm = true) : CallD X (.builtin "min") bMinL := by
  refine ⟨_, cr_min hc, fun F B ρ M H xs ds dz Q m rx e k => ?_⟩
  obtain ⟨d, rfl, h⟩ := one_some e
  cases rx with
  | cons r rr =>
    cases rr
    cases h1 : asL M d with
    | none => simp [h1] at h
    | some es =>
      cases h2 : asIs es with
      | none => simp [h1, h2] at h
      | some ns =>
        simp only [h1, h2, Option.bind_some] at h
        split at h
        · cases h
        · next hne =>
          obtain rfl := Option.some.inj h
          obtain ⟨ad, vs, rfl, hs, rs⟩ := asL_snd m r h1
          have ev := asIs_snd rs h2
          subst ev
          refine ⟨ad, ns, rfl, hs, List.length_pos_iff.mpr hne, fun z hz1 hz2 => ?_⟩
          obtain ⟨q1, q2⟩ := minL_mem hne
          have ez : z = minL ns := Int.le_antisymm (hz2 _ q1) (q2 z hz1)
          rw [ez]
          exact k.same m (.int _)
/-- sum of a tuple of ints -/
theorem cr_sumT (hc : X.calm = true) : CallR X (.builtin "sum") (fun vs H Q => ∃ (ad : Addr) (ns : List Int), vs = [V.ref ad] ∧ SqT X.K H ad (ns.map V.int) ∧ Q (.int ns.sum) H) := by
  intro pins s σ H vs us Q I r hq
  obtain ⟨ad, ns, rfl, hs, q⟩ := hq
  obtain ⟨its, rv, hl, _⟩ := I.tuple hs
  rw [Vals.ref1 r]
  have hi := rv.ints
  obtain ⟨xs, ex⟩ := hi.allInts.items
  have hn : numsOf (intItems xs).toList = ns := by rw [← ex]; exact hi.numsOf
  rw [nums_intItems] at hn
  have hl' : s.heap.IsTuple ad (intItems xs) := by rw [← ex]; exact hl
  refine PySem.W.ktm_sumG (I.ok.hd hc) hl' fun h' tk t' hk => ?_
  refine ⟨.int ns.sum, H, I.kept hk, ⟨t', ?_⟩, q⟩
  rw [preSum_eq, List.take_of_length_le (by simp), hn]
def bSumT : OpC := one fun M d => (asT d).bind fun ds => (asIs ds).map fun ns => .int ns.sum
theorem cd_sumT (hc : X.calm = true) : CallD X (.builtin "sum") bSumT := by
  refine ⟨_, cr_sumT hc, fun F B ρ M H xs ds dz Q m rx e k => ?_⟩
  obtain ⟨d, rfl, h⟩ := one_some e
  cases rx with
  | cons r rr =>
    cases rr
    cases h1 : asT d with
    | none => simp [h1] at h
    | some es =>
      cases h2 : asIs es with
      | none => simp [h1, h2] at h
      | some ns =>
        simp only [h1, h2, Option.bind_some, Option.map_some] at h
        obtain rfl := Option.some.inj h
        obtain ⟨ad, vs, rfl, hs, rs⟩ := asT_snd m r h1
        have ev := asIs_snd rs h2
        subst ev
        exact ⟨ad, ns, rfl, hs, k.same m (.int _)⟩
/-- xs.extend(ys) -/
def lExtend : OpL := fun M ds es => match es with
  | [d] => (asP M d).bind fun zs => if ds.length + zs.length ≤ 1000000 then some (.non, ds ++ zs) else none
  | _ => none
theorem lm_extend : LMD X "list.extend" lExtend := by
  refine ⟨rExtend, mt_extend, fun F B ρ M H ad vs xs ds es d ds' Q m hH rs re hh k => ?_⟩
  unfold lExtend at hh
  split at hh
  · next d1 =>
    cases hp : asP M d1 with
    | none => simp [hp] at hh
    | some zs =>
      simp only [hp, Option.bind_some] at hh
      split at hh
      · next hl =>
        obtain ⟨rfl, rfl⟩ := Prod.mk.inj (Option.some.inj hh)
        cases re with
        | cons r1 rr =>
          cases rr
          obtain ⟨b, us, rfl, hb, ru⟩ := asP_snd m r1 hp
          have h1 := rs.len
          have h2 := ru.len
          exact ⟨ad, b, vs, us, rfl, rfl, hH, hb, by rw [sizeLine_eq]; omega, k _ _ .non (rs.app ru)⟩
      · cases hh
  · cases hh
end
/-! ### zip of three tuples of one length -/
abbrev zt1 (h : Heap) (l1 : Addr) : Heap := h.push { cls := .type "tuple_iterator", data := .fields #[.ref l1, .int 0 0] }
abbrev zt2 (h : Heap) (l1 l2 : Addr) : Heap := (zt1 h l1).push { cls := .type "tuple_iterator", data := .fields #[.ref l2, .int 0 0] }
abbrev zt3 (h : Heap) (l1 l2 l3 : Addr) : Heap := (zt2 h l1 l2).push { cls := .type "tuple_iterator", data := .fields #[.ref l3, .int 0 0] }
abbrev zt4 (h : Heap) (l1 l2 l3 : Addr) : Heap := (zt3 h l1 l2 l3).push { cls := .type "tuple", data := .seq #[.ref h.objs.size, .ref (zt1 h l1).objs.size, .ref (zt2 h l1 l2).objs.size] }
abbrev zt5 (h : Heap) (l1 l2 l3 : Addr) : Heap := (zt4 h l1 l2 l3).push { cls := .type "tuple", data := .seq #[.none, .none, .none] }
abbrev zt6 (h : Heap) (l1 l2 l3 : Addr) : Heap := (zt5 h l1 l2 l3).push { cls := .type "zip", data := .fields #[.none, .bool false, .bool false, .ref (zt3 h l1 l2 l3).objs.size, .ref (zt4 h l1 l2 l3).objs.size] }
theorem meets_zt (l1 l2 l3 : Addr) (xs ys zs : Array Value) :
    Meets (Builtin.«zip.__new__» ⟨[.type "zip", .ref l1, .ref l2, .ref l3], []⟩) (fun _ R s => s.heap.IsTuple l1 xs ∧ s.heap.IsTuple l2 ys ∧ s.heap.IsTuple l3 zs ∧ R (.ok (.ret (.ref (zt5 s.heap l1 l2 l3).objs.size))) { s with heap := zt6 s.heap l1 l2 l3 }) :=
  .of_wp fun prog w A R s h => by
    obtain ⟨hp, g, d, tk, os⟩ := s; obtain ⟨hl1, hl2, hl3, h⟩ := h
    have hsub := sub_zip
    have hL1 : Heap.IsTuple (Shared.heap ⟨hp, g, d, tk, os⟩) l1 xs := hl1
    have hL2 : Heap.IsTuple (Shared.heap ⟨zt1 hp l1, g, d, tk, os⟩) l2 ys := Heap.IsTuple.push hl2 _
    have hL3 : Heap.IsTuple (Shared.heap ⟨zt2 hp l1 l2, g, d, tk, os⟩) l3 zs := Heap.IsTuple.push (Heap.IsTuple.push hl3 _) _
    wp_walk using wpAny_pyIter_tuple hL1, wpAny_pyIter_tuple hL2, wpAny_pyIter_tuple hL3
    exact ⟨_, rfl, h⟩
theorem tc_zt (a b c : Value) : checkTypeCall "zip" ⟨[a, b, c], []⟩ = pure () := by kernel_rfl
theorem nc_zt (a b c : Value) : checkBuiltinCall "zip.__new__" ⟨[.type "zip", a, b, c], []⟩ = pure () := by kernel_rfl
theorem ai_zt (obj a b c : Value) : argsOk "object.__init__" ⟨[obj, a, b, c], []⟩ := by unfold argsOk; kernel_rfl
theorem call_zt {prog : Program} {w : World} {A : Around} {E : Value → Shared → Prop} {s : Shared} {l1 l2 l3 : Addr} {xs ys zs : Array Value} {Q : Value → Shared → Prop} (hl1 : s.heap.IsTuple l1 xs) (hl2 : s.heap.IsTuple l2 ys) (hl3 : s.heap.IsTuple l3 zs)
    (h : ∀ h', IsZip h' (s.heap.objs.size + 5) (s.heap.objs.size + 3) (s.heap.objs.size + 4) .none → IsTupOf3 h' (s.heap.objs.size + 3) (.ref s.heap.objs.size) (.ref (s.heap.objs.size + 1)) (.ref (s.heap.objs.size + 2)) → IsTupOf3 h' (s.heap.objs.size + 4) .none .none .none →
      h'.IsTupleIter s.heap.objs.size l1 0 → h'.IsTupleIter (s.heap.objs.size + 1) l2 0 → h'.IsTupleIter (s.heap.objs.size + 2) l3 0 → (∀ c o, s.heap.get? c = some o → h'.get? c = some o) → Q (.ref (s.heap.objs.size + 5)) { s with heap := h' }) :
    wpAny (model prog w) A (call (.type "zip") [.ref l1, .ref l2, .ref l3]) Q E s := by
  refine callType_new F.called_zip (by decide) (tc_zt _ _ _) (nc_zt _ _ _) (fun obj => ai_zt obj _ _ _) F.entry_zip_new (meets_zt l1 l2 l3 xs ys zs) ⟨hl1, hl2, hl3, ?_⟩
  have z1 : (zt1 s.heap l1).objs.size = s.heap.objs.size + 1 := Heap.size_push ..
  have z2 : (zt2 s.heap l1 l2).objs.size = s.heap.objs.size + 2 := by rw [Heap.size_push, z1]
  have z3 : (zt3 s.heap l1 l2 l3).objs.size = s.heap.objs.size + 3 := by rw [Heap.size_push, z2]
  have z4 : (zt4 s.heap l1 l2 l3).objs.size = s.heap.objs.size + 4 := by rw [Heap.size_push, z3]
  have z5 : (zt5 s.heap l1 l2 l3).objs.size = s.heap.objs.size + 5 := by rw [Heap.size_push, z4]
  have up : ∀ {h : Heap} {c : Addr} {o o' : Obj}, h.get? c = some o → (h.push o').get? c = some o := fun e => Heap.get?_push_of_some _ e
  have g6 : (zt6 s.heap l1 l2 l3).get? (zt5 s.heap l1 l2 l3).objs.size = some _ := Heap.get?_push_size _ rfl
  have g5 : (zt6 s.heap l1 l2 l3).get? (zt4 s.heap l1 l2 l3).objs.size = some _ := up (Heap.get?_push_size _ rfl)
  have g4 : (zt6 s.heap l1 l2 l3).get? (zt3 s.heap l1 l2 l3).objs.size = some _ := up (up (Heap.get?_push_size _ rfl))
  have g3 : (zt6 s.heap l1 l2 l3).get? (zt2 s.heap l1 l2).objs.size = some _ := up (up (up (Heap.get?_push_size _ rfl)))
  have g2 : (zt6 s.heap l1 l2 l3).get? (zt1 s.heap l1).objs.size = some _ := up (up (up (up (Heap.get?_push_size _ rfl))))
  have g1 : (zt6 s.heap l1 l2 l3).get? s.heap.objs.size = some _ := up (up (up (up (up (Heap.get?_push_size _ rfl)))))
  show _ ∧ _
  rw [z3, z4, z5] at g6
  rw [z4] at g5
  rw [z1, z2, z3] at g4
  rw [z2] at g3
  rw [z1] at g2
  rw [z5]
  exact ⟨⟨_, g6, rfl⟩, h _ g6 g4 g5 ⟨_, g1, rfl, rfl⟩ ⟨_, g2, rfl, rfl⟩ ⟨_, g3, rfl, rfl⟩ fun c o x => up (up (up (up (up (up x)))))⟩
def Itz3 (K : PySem.W.Frag) (a b c : Addr) : It :=
  ⟨fun i H => ∃ (xs ys zs : List V) (x y z : V), SqT K H a xs ∧ SqT K H b ys ∧ SqT K H c zs ∧ xs[i]? = some x ∧ ys[i]? = some y ∧ zs[i]? = some z,
    fun i H v H' => ∃ T x y z, v = .ref T ∧ H T = none ∧ H' = upd H T (.tup [x, y, z]) ∧ (∀ xs, SqT K H a xs → xs[i]? = some x) ∧ (∀ ys, SqT K H b ys → ys[i]? = some y) ∧ ∀ zs, SqT K H c zs → zs[i]? = some z,
    fun i H => ∃ xs ys zs : List V, SqT K H a xs ∧ SqT K H b ys ∧ SqT K H c zs ∧ xs.length = i ∧ ys.length = i ∧ zs.length = i⟩
theorem turn_zt {P : Program} {w : World} {K : PySem.W.Frag} {elts : List Expr} {kk : Nat} {tpos : Pos} {a b c z TI TO i1 i2 i3 : Addr} (S : ZipSep3 z TI TO i1 i2 i3 [i1, a] [i2, b] [i3, c]) (n1 : a ≠ i1) (n2 : b ≠ i2) (n3 : c ≠ i3) :
    Turn P w K (.Tuple elts kk tpos) (Itz3 K a b c) [z, TI, TO, i1, i2, i3] z (fun i h => IsZip h z TI TO .none ∧ IsTupOf3 h TI (.ref i1) (.ref i2) (.ref i3) ∧ (∃ x y w, IsTupOf3 h TO x y w) ∧ h.IsTupleIter i1 a i ∧ h.IsTupleIter i2 b i ∧ h.IsTupleIter i3 c i) where
  mem := by simp
  obj := fun i h st d hd => by
    obtain ⟨hz, hTI, ⟨x, y, w, hTO⟩, ⟨o1, e1, _, d1⟩, ⟨o2, e2, _, d2⟩, ⟨o3, e3, _, d3⟩⟩ := st
    have e' : d = z ∨ d = TI ∨ d = TO ∨ d = i1 ∨ d = i2 ∨ d = i3 := by simpa using hd
    rcases e' with q | q | q | q | q | q
    · rw [q]; exact ⟨_, hz, fun v q => nomatch q⟩
    · rw [q]; exact ⟨_, hTI, fun v q => nomatch q⟩
    · rw [q]; exact ⟨_, hTO, fun v q => nomatch q⟩
    · rw [q]; exact ⟨o1, e1, fun v q => by rw [d1] at q; cases q⟩
    · rw [q]; exact ⟨o2, e2, fun v q => by rw [d2] at q; cases q⟩
    · rw [q]; exact ⟨o3, e3, fun v q => by rw [d3] at q; cases q⟩
  keep := fun i h h' st k => by
    obtain ⟨hz, hTI, ⟨x, y, w, hTO⟩, h1, h2, h3⟩ := st
    exact ⟨k z (by simp) _ hz, k TI (by simp) _ hTI, ⟨x, y, w, k TO (by simp) _ hTO⟩, h1.at fun o q => k i1 (by simp) o q, h2.at fun o q => k i2 (by simp) o q, h3.at fun o q => k i3 (by simp) o q⟩
  item := by
    intro X hP hw hK hc i pins s σ H E I hf st hg
    subst hP hw hK
    obtain ⟨hz, hTI, ⟨x0, y0, w0, hTO⟩, h1, h2, h3⟩ := st
    obtain ⟨xs, ys, zs, x, y, v, hqx, hqy, hqz, hx, hy, hv⟩ := hg
    obtain ⟨its, rv, p, _⟩ := I.tuple hqx
    obtain ⟨its2, rv2, p2, _⟩ := I.tuple hqy
    obtain ⟨its3, rv3, p3, _⟩ := I.tuple hqz
    obtain ⟨u, hu, ru⟩ := rv.get hx
    obtain ⟨u2, hu2, ru2⟩ := rv2.get hy
    obtain ⟨u3, hu3, ru3⟩ := rv3.get hv
    have hzl : z < s.heap.objs.size := Heap.lt_size hz
    have hh : X.A.in1.handled = none := I.ok.hd hc
    have lt1 : i < its.toArray.size := by simpa using (List.getElem?_eq_some_iff.mp hu).1
    have lt2 : i < its2.toArray.size := by simpa using (List.getElem?_eq_some_iff.mp hu2).1
    have lt3 : i < its3.toArray.size := by simpa using (List.getElem?_eq_some_iff.mp hu3).1
    refine wpAny_pyNext_zipD3_item S (Draws.tuple hh i1 a n1 its.toArray) (Draws.tuple hh i2 b n2 its2.toArray) (Draws.tuple hh i3 c n3 its3.toArray) hz hTI hTO ⟨h1, p⟩ ⟨h2, p2⟩ ⟨h3, p3⟩ lt1 lt2 lt3 fun w1 w2 w3 h' tk f1 f2 f3 z' TO' s1 s2 s3 hT hsz hk => ?_
    obtain rfl : w1 = u := by
      have : its.toArray[i]? = some u := by simpa using hu
      rw [this] at f1
      exact (Option.some.inj f1).symm
    obtain rfl : w2 = u2 := by
      have : its2.toArray[i]? = some u2 := by simpa using hu2
      rw [this] at f2
      exact (Option.some.inj f2).symm
    obtain rfl : w3 = u3 := by
      have : its3.toArray[i]? = some u3 := by simpa using hu3
      rw [this] at f3
      exact (Option.some.inj f3).symm
    refine ⟨_, rfl, wpAny_letOwnedTupleGo_zip (s := { s with heap := h', toks := tk }) z' fun h'' z'' sb => ?_⟩
    have hT2 : h''.get? s.heap.objs.size = some { cls := .type "tuple", data := .seq #[w1, w2, w3] } := (sb.2 _ (Nat.ne_of_gt hzl)).trans hT
    have new : ObjOk X.prog X.w (upd H s.heap.objs.size (.tup [x, y, v])) h'' s.heap.objs.size (.tup [x, y, v]) :=
      ⟨by show 3 ≤ sizeLine; decide, [w1, w2, w3], .cons ru (.cons ru2 (.cons ru3 .nil)), ⟨_, hT2, rfl, _, rfl⟩⟩
    have I1 : Inv X pins σ (upd H s.heap.objs.size (.tup [x, y, v])) { s with heap := h'', toks := tk } :=
      I.turnedNew (t' := tk) (ch := [z, TI, TO, i1, i2, i3]) (fun d o hb q => (sb.2 d (fun q' => hb (by simp [q']))).trans (hk d o (fun q' => hb (by simp [q'])) (fun q' => hb (by simp [q'])) (fun q' => hb (by simp [q'])) (fun q' => hb (by simp [q'])) (fun q' => hb (by simp [q'])) q)) hf (Nat.le_refl _) new
    refine ⟨.ref s.heap.objs.size, _, I1, rfl, ⟨_, x, y, v, rfl, I.hok.fresh (Nat.le_refl _), rfl, fun l hl => by rw [I.tuple_inj hl hqx]; exact hx, fun l hl => by rw [I.tuple_inj hl hqy]; exact hy, fun l hl => by rw [I.tuple_inj hl hqz]; exact hv⟩, ⟨z'', ?_, ⟨w1, w2, w3, ?_⟩, ?_, ?_, ?_⟩, fun d hd => ?_⟩
    · exact (sb.2 _ S.TIz).trans (hk _ _ S.TIz S.TITO S.TIi1 S.TIi2 S.TIi3 hTI)
    · exact (sb.2 _ S.TOz).trans TO'
    · exact s1.1.at fun o q => (sb.2 _ (Ne.symm S.zi1)).trans q
    · exact s2.1.at fun o q => (sb.2 _ (Ne.symm S.zi2)).trans q
    · exact s3.1.at fun o q => (sb.2 _ (Ne.symm S.zi3)).trans q
    · have hlt : d < s.heap.objs.size := by
        have e' : d = z ∨ d = TI ∨ d = TO ∨ d = i1 ∨ d = i2 ∨ d = i3 := by simpa using hd
        rcases e' with q | q | q | q | q | q
        · rw [q]; exact hzl
        · rw [q]; exact Heap.lt_size hTI
        · rw [q]; exact Heap.lt_size hTO
        · rw [q]; obtain ⟨_, e1, _⟩ := h1; exact Heap.lt_size e1
        · rw [q]; obtain ⟨_, e2, _⟩ := h2; exact Heap.lt_size e2
        · rw [q]; obtain ⟨_, e3, _⟩ := h3; exact Heap.lt_size e3
      rw [upd_ne (Nat.ne_of_lt hlt)]
      exact (hf d hd).1
  done := by
    intro X hP hw hK hc i pins s σ H E I hf st hg
    subst hP hw hK
    obtain ⟨hz, hTI, ⟨x0, y0, w0, hTO⟩, h1, h2, h3⟩ := st
    obtain ⟨xs, ys, zs, hqx, hqy, hqz, e1, e2, e3⟩ := hg
    obtain ⟨its, rv, p, _⟩ := I.tuple hqx
    obtain ⟨its2, rv2, p2, _⟩ := I.tuple hqy
    obtain ⟨its3, rv3, p3, _⟩ := I.tuple hqz
    have hh : X.A.in1.handled = none := I.ok.hd hc
    have q1 := rv.length
    have q2 := rv2.length
    have q3 := rv3.length
    exact wpAny_pyNext_zipD3_end S (Draws.tuple hh i1 a n1 its.toArray) (Draws.tuple hh i2 b n2 its2.toArray) (Draws.tuple hh i3 c n3 its3.toArray) hz hTI hTO ⟨h1, p⟩ ⟨h2, p2⟩ ⟨h3, p3⟩ (by simp; omega) (by simp; omega) (by simp; omega) (.inl (by simp; omega)) fun h' tk hk =>
      ⟨rfl, I.turnedL (t' := tk) (ch := [z, TI, TO, i1, i2, i3]) (fun d o hb q => hk d o (fun q' => hb (by simp [q'])) (fun q' => hb (by simp [q'])) (fun q' => hb (by simp [q'])) (fun q' => hb (by simp [q'])) (fun q' => hb (by simp [q'])) q) hf⟩
  self := fun A i s Q E st h => wpAny_pyIter_zip st.1 h
def iZip3 (K : PySem.W.Frag) (ta : TA) : TI := fun σ H R => ta σ H fun vs H1 => ∃ a b c xs ys zs, vs = [.ref a, .ref b, .ref c] ∧ SqT K H1 a xs ∧ SqT K H1 b ys ∧ SqT K H1 c zs ∧ R (Itz3 K a b c) H1
theorem pi_zip3 {X : Cx} {e e2 e3 : Expr} {ta : TA} {p pos tpos : Pos} {elts : List Expr} {kk : Nat} (hg : Gl X "zip") (hm : X.mg "zip" = none) (ha : PA X [e, e2, e3] ta)
    (hs : starEach [e, e2, e3] X.env = (false, eval e X.env) :: starEach [e2, e3] X.env := by rfl) (hpl : (backTo pos (starEach [e2, e3] X.env)).any (·.1) = false := by rfl) :
    PI X (.Tuple elts kk tpos) (.Call (.Name "zip" p) [e, e2, e3] [] pos) (iZip3 X.K ta) := by
  refine ⟨fun pins s σ H R I h => ?_⟩
  refine Call_ (ld_blt I hg hm PyProof.Rows.boot_zip (PyProof.Rows.callWith_type1 (thn (ha.run pos pins s σ H _ I h) fun us s1 ⟨vs, H1, I1, r1, q1⟩ => ?_) hs hpl))
  obtain ⟨a, b, c, xs, ys, zs, ex, hqx, hqy, hqz, q⟩ := q1
  subst ex
  cases r1 with
  | cons r rr =>
    cases rr with
    | cons r' rr =>
      cases rr with
      | cons r'' rr =>
        cases rr
        cases r
        cases r'
        cases r''
        obtain ⟨its, rv, p1, _⟩ := I1.tuple hqx
        obtain ⟨its2, rv2, p2, _⟩ := I1.tuple hqy
        obtain ⟨its3, rv3, p3, _⟩ := I1.tuple hqz
        obtain ⟨o1, ho1, _⟩ := id p1
        obtain ⟨o2, ho2, _⟩ := id p2
        obtain ⟨o3, ho3, _⟩ := id p3
        have la := Heap.lt_size ho1
        have lb := Heap.lt_size ho2
        have lc := Heap.lt_size ho3
        refine call_zt (show s1.heap.IsTuple a its.toArray from p1) (show s1.heap.IsTuple b its2.toArray from p2) (show s1.heap.IsTuple c its3.toArray from p3) fun h' hz hTI hTO h1 h2 h3 hk => wpAny_pyIter_zip hz ?_
        have I2 : Inv X pins σ H1 { s1 with heap := h' } := I1.kept (t' := s1.toks) hk
        have S := zip_sep3 (N := s1.heap.objs.size) (fp1 := [a]) (fp2 := [b]) (fp3 := [c]) (by simpa using la) (by simpa using lb) (by simpa using lc)
        refine ⟨s1.heap.objs.size + 5, [s1.heap.objs.size + 5, s1.heap.objs.size + 3, s1.heap.objs.size + 4, s1.heap.objs.size, s1.heap.objs.size + 1, s1.heap.objs.size + 2], _, _, H1, rfl, I2, turn_zt S (Nat.ne_of_lt la) (Nat.ne_of_lt (Nat.lt_succ_of_lt lb)) (Nat.ne_of_lt (Nat.lt_succ_of_lt (Nat.lt_succ_of_lt lc))), ⟨hz, hTI, ⟨_, _, _, hTO⟩, h1, h2, h3⟩, fun d hd => ?_, q⟩
        have hle : s1.heap.objs.size ≤ d := by
          have e' : d = s1.heap.objs.size + 5 ∨ d = s1.heap.objs.size + 3 ∨ d = s1.heap.objs.size + 4 ∨ d = s1.heap.objs.size ∨ d = s1.heap.objs.size + 1 ∨ d = s1.heap.objs.size + 2 := by simpa using hd
          rcases e' with q | q | q | q | q | q <;> rw [q] <;> first | exact Nat.le_add_right _ _ | exact Nat.le_refl _
        exact I1.fpOk hle (I1.hok.fresh hle)
def zip3D : List D → List D → List D → List D
  | x :: xs, y :: ys, z :: zs => .tup [x, y, z] :: zip3D xs ys zs
  | _, _, _ => []
theorem zip3_len : ∀ {xs ys zs : List D}, ys.length = xs.length → zs.length = xs.length → (zip3D xs ys zs).length = xs.length
  | [], _, _, _, _ => by simp [zip3D]
  | _ :: xs, _ :: ys, _ :: zs, h1, h2 => by simp [zip3D, zip3_len (xs := xs) (ys := ys) (zs := zs) (by simpa using h1) (by simpa using h2)]
  | _ :: _, [], _, h1, _ => by simp at h1
  | _ :: _, _ :: _, [], _, h2 => by simp at h2
theorem zip3_get : ∀ {xs ys zs : List D} {i : Nat} {d : D}, (zip3D xs ys zs)[i]? = some d → ∃ x y z, xs[i]? = some x ∧ ys[i]? = some y ∧ zs[i]? = some z ∧ d = .tup [x, y, z]
  | x :: xs, y :: ys, z :: zs, 0, d, h => by simp [zip3D] at h; exact ⟨x, y, z, rfl, rfl, rfl, h.symm⟩
  | x :: xs, y :: ys, z :: zs, i + 1, d, h => by
    obtain ⟨x', y', z', h1, h2, h3, h4⟩ := zip3_get (xs := xs) (ys := ys) (zs := zs) (i := i) (d := d) (by simpa [zip3D] using h)
    exact ⟨x', y', z', by simpa using h1, by simpa using h2, by simpa using h3, h4⟩
  | [], _, _, _, _, h => by simp [zip3D] at h
  | _ :: _, [], _, _, _, h => by simp [zip3D] at h
  | _ :: _, _ :: _, [], _, _, h => by simp [zip3D] at h
def xZip3 (g : XA) : XI := fun η M => (g η M).bind fun ds M1 => match ds with
  | [.tup xs, .tup ys, .tup zs] => if ys.length = xs.length ∧ zs.length = xs.length then .ok (zip3D xs ys zs) M1 else .no
  | _ => .no
theorem di_zip3 {X : Cx} {W : WX} {e e2 e3 : Expr} {fa : XA} {p0 pos tpos : Pos} {elts : List Expr} {kk : Nat} (hg : Gl X "zip") (hm : X.mg "zip" = none) (ha : DA X W [e, e2, e3] fa)
    (hs : starEach [e, e2, e3] X.env = (false, eval e X.env) :: starEach [e2, e3] X.env := by rfl) (hpl : (backTo pos (starEach [e2, e3] X.env)).any (·.1) = false := by rfl) : DI X W (.Tuple elts kk tpos) (.Call (.Name "zip" p0) [e, e2, e3] [] pos) (xZip3 fa) :=
  PI.imp (pi_zip3 hg hm ha hs hpl) fun σ H Q z => by
    obtain ⟨η, F, B, ρ, M, er, m, w⟩ := z
    refine ⟨η, F, B, ρ, M, er, m, w.bind fun ds M1 B1 ρ1 H1 l1 m1 w1 vs rv => ?_⟩
    split at w1
    · next xs ys zs =>
      split at w1
      · next hl =>
        cases rv with
        | cons r rr =>
          cases rr with
          | cons r' rr =>
            cases rr with
            | cons r'' rr =>
              cases rr
              cases r with
              | @tup a vs1 _ e1 q1 =>
                cases r' with
                | @tup b vs2 _ e2 q2 =>
                  cases r'' with
                  | @tup c vs3 _ e3 q3 =>
                    have t1 := q1.len
                    have t2 := q2.len
                    have t3 := q3.len
                    refine ⟨_, _, _, _, _, _, rfl, ex_t m1.ex e1, ex_t m1.ex e2, ex_t m1.ex e3, Wp.ret w1 m1 _ ⟨⟨fun H => SqT X.K H a vs1 ∧ SqT X.K H b vs2 ∧ SqT X.K H c vs3,
                      fun i H v H' => ∃ T x y z, v = .ref T ∧ H T = none ∧ H' = upd H T (.tup [x, y, z]) ∧ vs1[i]? = some x ∧ vs2[i]? = some y ∧ vs3[i]? = some z, ?_, fun H hH => ⟨ex_t hH e1, ex_t hH e2, ex_t hH e3⟩, ?_⟩⟩⟩
                    · rw [zip3_len hl.1 hl.2]
                      refine ⟨fun i H hi q => ?_, fun H q => ⟨vs1, vs2, vs3, q.1, q.2.1, q.2.2, by omega, by omega, by omega⟩, fun i H v H' _ q y => ?_⟩
                      · have i1 : i < vs1.length := by omega
                        have i2 : i < vs2.length := by omega
                        have i3 : i < vs3.length := by omega
                        exact ⟨vs1, vs2, vs3, vs1[i], vs2[i], vs3[i], q.1, q.2.1, q.2.2, by simp [i1], by simp [i2], by simp [i3]⟩
                      · obtain ⟨T, x, y, z, h1, h2, h3, h4, h5, h6⟩ := y
                        exact ⟨T, x, y, z, h1, h2, h3, h4 _ q.1, h5 _ q.2.1, h6 _ q.2.2⟩
                    · intro i d hd F1 B2 ρ2 M2 H2 x H3 l m y
                      obtain ⟨T, u1, u2, u3, rfl, hT, rfl, hx, hy, hz⟩ := y
                      obtain ⟨d1, d2, d3, g1, g2, g3, rfl⟩ := zip3_get hd
                      obtain ⟨v1, k1, s1⟩ := q1.get g1
                      obtain ⟨v2, k2, s2⟩ := q2.get g2
                      obtain ⟨v3, k3, s3⟩ := q3.get g3
                      rw [hx] at k1
                      rw [hy] at k2
                      rw [hz] at k3
                      cases k1
                      cases k2
                      cases k3
                      obtain ⟨m', l'⟩ := m.new (o := .tup [u1, u2, u3]) hT
                      exact ⟨_, l', m', .tup (st_of upd_same) (.cons (s1.mono (l.trans l')) (.cons (s2.mono (l.trans l')) (.cons (s3.mono (l.trans l')) .nil))) (.inr upd_same), Ex.new hT⟩
      · exact w1.elim
    · exact w1.elim
end Dn

/-! a tuple times 0 or 1 -/
namespace Dn
open PySem PySem.Spec PyProof.Rows L2
theorem tuple_mul1 (l : Addr) (items : Array Value) (n : Nat) (dd : Option Addr) (sl : Array (Option Value)) (u : Tok) (c1 : (items.isEmpty || (1 : Int) == 1) = true) :
    Meets (Builtin.«tuple.__mul__» ⟨[.ref l, .int 1 u], []⟩) (fun _ R s => s.heap.get? l = some { cls := .type "tuple", dict := dd, data := .seq items n, slots := sl } ∧ R (.ok (.ret (Value.ref l))) s) :=
  .of_wp fun prog w A R s h => by
    obtain ⟨hp, g, d, tk, os⟩ := s
    obtain ⟨hl, h⟩ := h
    have f1 := AutoSeq1.idx_int
    wp_walk using wpAny_loadPart' hl
    repeat (first
      | (refine wpAny_ite_false (decide_eq_false (by decide)) ?_; wp_walk using wpAny_loadPart' hl)
      | (refine wpAny_ite_true (decide_eq_true c1) ?_; wp_walk using wpAny_loadPart' hl))
    exact ⟨_, rfl, h⟩
theorem tuple_mul0 (l : Addr) (items : Array Value) (n : Nat) (dd : Option Addr) (sl : Array (Option Value)) (u : Tok) (c1 : (items.isEmpty || (0 : Int) == 1) = false) :
    Meets (Builtin.«tuple.__mul__» ⟨[.ref l, .int 0 u], []⟩) (fun _ R s => s.heap.get? l = some { cls := .type "tuple", dict := dd, data := .seq items n, slots := sl } ∧
      R (.ok (.ret (Value.ref s.heap.objs.size))) { s with heap := s.heap.push { cls := Value.type "tuple", data := Data.seq #[] }, toks := s.toks }) :=
  .of_wp fun prog w A R s h => by
    obtain ⟨hp, g, d, tk, os⟩ := s
    obtain ⟨hl, h⟩ := h
    have f1 := AutoSeq1.idx_int
    wp_walk using wpAny_loadPart' hl
    repeat (first
      | (refine wpAny_ite_false (decide_eq_false (by decide)) ?_; wp_walk using wpAny_loadPart' hl)
      | (refine wpAny_ite_false (decide_eq_false (by rw [c1]; exact Bool.false_ne_true)) ?_; wp_walk using wpAny_loadPart' hl)
      | (refine wpAny_ite_true (decide_eq_true (by simp)) ?_; wp_walk using wpAny_loadPart' hl))
    exact ⟨_, rfl, h⟩
def rRep1 (K : PySem.W.Frag) : R2 := fun x y H Q => ∃ l k xs, x = .ref l ∧ y = .int k ∧ SqT K H l xs ∧ xs ≠ [] ∧ ((k = 1 ∧ Q (.ref l) H) ∨ (k = 0 ∧ ∀ p, H p = none → Q (.ref p) (upd H p (.tup []))))
section
variable {X : Cx}
theorem op_rep1 : OpR X (binaryOp .Mult) (rRep1 X.K) := by
  intro pins s σ H x y v u Q I rx ry h
  obtain ⟨l, k, xs, rfl, rfl, hT, hne, q⟩ := h
  cases rx
  obtain ⟨t, rfl⟩ := ry
  obtain ⟨its, rw1, ⟨⟨cls, dd, data, sl⟩, ho, hc, n, hd⟩, _⟩ := I.tuple hT
  simp only at hc hd
  subst hc hd
  have hi : its.toArray.isEmpty = false := by
    have hle : its.length = xs.length := rw1.length.symm
    cases its with
    | nil => exact absurd (List.eq_nil_of_length_eq_zero hle.symm) hne
    | cons a b => rfl
  rcases q with ⟨rfl, q⟩ | ⟨rfl, q⟩
  · refine wpAny_binaryOp_repeat_ref (T := "tuple") (U := "int") (by decide) ⟨_, ho, rfl⟩ (fun s' => typeIs_int s' 1 t) noFill_tuple_mul F.fills_int_mul F.slot_int_rmul repeat_tuple F.slot_int_index.lookup
      (call_meets F.slot_int_rmul (typeIs_int s 1 t) F.entry_int_rmul (F.args_int_rmul_2 _ _) (int_rmul_tuple 1 t l its.toArray n dd sl)
        ⟨ho, rfl, ⟨_, ho, rfl⟩, call_meets F.slot_tuple_mul ⟨_, ho, rfl⟩ F.entry_tuple_mul (F.args_tuple_mul_2 _ _) (tuple_mul1 l its.toArray n dd sl t (by rw [hi]; rfl)) ⟨ho, ?_⟩⟩)
    exact ⟨.ref l, _, I, rfl, q⟩
  · refine wpAny_binaryOp_repeat_ref (T := "tuple") (U := "int") (by decide) ⟨_, ho, rfl⟩ (fun s' => typeIs_int s' 0 t) noFill_tuple_mul F.fills_int_mul F.slot_int_rmul repeat_tuple F.slot_int_index.lookup
      (call_meets F.slot_int_rmul (typeIs_int s 0 t) F.entry_int_rmul (F.args_int_rmul_2 _ _) (int_rmul_tuple 0 t l its.toArray n dd sl)
        ⟨ho, rfl, ⟨_, ho, rfl⟩, call_meets F.slot_tuple_mul ⟨_, ho, rfl⟩ F.entry_tuple_mul (F.args_tuple_mul_2 _ _) (tuple_mul0 l its.toArray n dd sl t (by rw [hi]; rfl)) ⟨ho, ?_⟩⟩)
    refine ⟨.ref s.heap.objs.size, _, I.laid (t' := s.toks) (o := .tup []) (fun b ob q => Heap.get?_push_of_some _ q) (Nat.le_refl _) ?_, rfl, q _ (I.hok.fresh (Nat.le_refl _))⟩
    exact ⟨by simp, [], .nil, IsTup.new _ _⟩
def tRep1 : Op2 := fun _ x y => (asT x).bind fun ds => if ds = [] then none else match y with
  | .int k => if k = 1 then some x else if k = 0 then some (.tup []) else none
  | _ => none
theorem od_rep1 : OpD X (binaryOp .Mult) tRep1 := by
  refine ⟨_, op_rep1, fun F B ρ M H x y dx dy dz Q m rx ry e k => ?_⟩
  unfold tRep1 at e
  cases h1 : asT dx with
  | none => simp [h1] at e
  | some ds =>
    rw [h1, Option.bind_some] at e
    split at e
    · cases e
    · next hne =>
      obtain ⟨a, vs, rfl, hs, rs⟩ := asT_snd m rx h1
      have hv : vs ≠ [] := fun z => hne (by subst z; cases rs; rfl)
      split at e
      · next i =>
        cases ry
        refine ⟨a, i, vs, rfl, rfl, hs, hv, ?_⟩
        split at e
        · next hi => cases e; exact .inl ⟨hi, k.same m rx⟩
        · split at e
          · next hi => cases e; exact .inr ⟨hi, k.newT m .nil⟩
          · cases e
      · cases e
def dMulT : Op2 := oOr dMul tRep1
theorem od_mulT : OpD X (binaryOp .Mult) dMulT := od_mul.or od_rep1
end
end Dn

/-! DnKeys: is of truths; list(d) of a dict with tuple keys -/
namespace Dn
open PySem PySem.Spec PyProof.Rows L2 Evl
section
variable {X : Cx}
theorem op_isB : OpR X (compareOp .Is) (fun x y H Q => ∃ b c : Bool, x = .bl b ∧ y = .bl c ∧ Q (.bl (b == c)) H) := by
  intro pins s σ H x y v u Q I rx ry h
  obtain ⟨b, c, rfl, rfl, q⟩ := h
  cases rx
  cases ry
  have e : compareOp .Is (.bool b) (.bool c) = pure (.bool (b == c)) := by cases b <;> cases c <;> rfl
  rw [e]
  exact wpAny_pure (fin_bl I q rfl)
theorem op_notB : OpR X (compareOp .IsNot) (fun x y H Q => ∃ b c : Bool, x = .bl b ∧ y = .bl c ∧ Q (.bl (!(b == c))) H) := by
  intro pins s σ H x y v u Q I rx ry h
  obtain ⟨b, c, rfl, rfl, q⟩ := h
  cases rx
  cases ry
  have e : compareOp .IsNot (.bool b) (.bool c) = pure (.bool (!(b == c))) := by cases b <;> cases c <;> rfl
  rw [e]
  exact wpAny_pure (fin_bl I q rfl)
def dIsB : Op2 := fun _ x y => match x, y with
  | .bl b, .bl c => some (.bl (b == c))
  | _, _ => none
def dNotB : Op2 := fun _ x y => match x, y with
  | .bl b, .bl c => some (.bl (!(b == c)))
  | _, _ => none
theorem od_isB : OpD X (compareOp .Is) dIsB := by
  refine ⟨_, op_isB, fun F B ρ M H x y dx dy dz Q m rx ry e k => ?_⟩
  unfold dIsB at e
  split at e
  · cases rx
    cases ry
    cases e
    exact ⟨_, _, rfl, rfl, k.same m (.bl _)⟩
  · cases e
theorem od_notB : OpD X (compareOp .IsNot) dNotB := by
  refine ⟨_, op_notB, fun F B ρ M H x y dx dy dz Q m rx ry e k => ?_⟩
  unfold dNotB at e
  split at e
  · cases rx
    cases ry
    cases e
    exact ⟨_, _, rfl, rfl, k.same m (.bl _)⟩
  · cases e
def keysT (kds : List (List L2.Key × D)) : List D := kds.map fun p => .tup (p.1.map k1D)
theorem know_keys {K : PySem.W.Frag} {F H : Hp} {ρ : List Addr} {M : Mem} {B0 : Hp} : ∀ {kds : List (List L2.Key × D)} {kvs : List (List L2.Key × V)} {bs : List Addr} {B : Hp}, Paired (PrD K B0 ρ) kds kvs → IsKeys H kvs bs → MR K F B ρ M H → ∃ B', Le B ρ B' ρ ∧ MR K F B' ρ M H ∧ Rps K B' ρ (keysT kds) (bs.map V.ref)
  | [], _, _, B, .nil, .nil, m => ⟨B, Le.refl _ _, m, .nil⟩
  | kd :: kds, kv :: kvs, b :: bs, B, .cons h hs, .cons q qs, m => by
    obtain ⟨B1, l1, m1, hb⟩ := m.know q
    obtain ⟨B2, l2, m2, r⟩ := know_keys hs qs m1
    have e0 : kd.1 = kv.1 := h.1
    refine ⟨B2, l1.trans l2, m2, .cons ?_ r⟩
    have hb' := l2.1 _ _ hb
    show Rp K B2 ρ (.tup (kd.1.map k1D)) (.ref b)
    rw [e0]
    exact .tup (st_of hb') (ksD_rp _) (.inr hb')
def bListT : OpC := one fun M d => (asDT M d).map fun kds => .lst (keysT kds)
theorem cd_listT (hc : X.calm = true) : CallD X (.type "list") bListT := by
  refine ⟨_, call_list_dT hc, fun F B ρ M H xs ds dz Q m rx e k => ?_⟩
  obtain ⟨d, rfl, h⟩ := one_some e
  cases rx with
  | cons r rr =>
    cases rr
    cases h2 : asDT M d with
    | none => simp [h2] at h
    | some kds =>
      simp [h2] at h
      subst h
      obtain ⟨a, kvs, rfl, hd, hp⟩ := asDT_snd m r h2
      refine ⟨a, kvs, rfl, hd, fun p bs hp0 hk => ?_⟩
      obtain ⟨B1, l1, m1, r1⟩ := know_keys hp hk m
      obtain ⟨m2, l2⟩ := m1.new (o := .lst (bs.map V.ref)) hp0
      exact k _ _ _ (l1.trans l2) m2 (.lst upd_same (r1.mono l2))
end
/-! a def called with fewer values than it has parameters: what stands behind = -/
structure FnDf (P : Program) (w : World) (K : PySem.W.Frag) (mg : Str → Option Value) (base : Heap) (k : Nat) (x : Str) (n : Nat) (dfl : List D) (f : Fn) : Prop where
  ex : ∃ (a : Addr) (fd : FuncData) (ps : List Str) (ds : List Value) (dvs : List V), FnOk P w K mg base CX0 k a fd ps (spF K mg (n + dfl.length) f) ∧ mg x = some (.ref a) ∧ PySem.W.keepIn K (.ref a) = true ∧ Binds K fd ps ds ∧ Vals dvs ds ∧ ∀ B ρ, Rps K B ρ dfl dvs
def xFnDf (n : Nat) (dfl : List D) (f : Fn) (fa : XA) : XE := fun η M => (fa η M).bind fun ds M1 => if ds.length = n then f (ds ++ dfl) M1 else .no
theorem de_callDf {X : Cx} {W : WX} {e : Expr} {es : List Expr} {fa : XA} {pos : Pos} {k n : Nat} {x : Str} {dfl : List D} {f : Fn} {p0 : Pos} (G : FnDf X.prog X.w X.K X.mg X.base k x n dfl f) (hr : Room k X.A) (hg : Gl X x) (ha : DA X W (e :: es) fa) (hdb : (x == ("__debug__" : Str)) = false := by decide)
    (he : starEach (e :: es) X.env = (false, eval e X.env) :: starEach es X.env := by rfl) (hpl : (backTo pos (starEach es X.env)).any (·.1) = false := by rfl) : DE X W (.Call (.Name x p0) (e :: es) [] pos) (xFnDf n dfl f fa) := by
  obtain ⟨ad, fd, ps, dv, dvs, F, hm, hk, hb, hv, hR⟩ := G.ex
  refine PE.imp (pe_call (E := E0) F hr hg hm hk hb hv passW ha hdb he hpl) fun σ H Q z => ?_
  obtain ⟨η, Fr, B, ρ, M, er, m, w⟩ := z
  refine ⟨η, Fr, B, ρ, M, er, m, w.bind fun ds M1 B1 ρ1 H1 l1 m1 w1 vs rv => ?_⟩
  split at w1
  · next hl => exact ⟨_, ds ++ dfl, Fr, B1, ρ1, M1, by simp [hl], rv.app (hR _ _), m1, w1⟩
  · exact w1.elim
end Dn

/-! DnRec: nothing promised; a, b, c = x, y, z -/
namespace Dn
open PySem PySem.Spec PyProof.Rows L2 Evl
section
variable {X : Cx} {W : WX} {a b c : Expr} {f g h : XE} {pos : Pos}
theorem dss_never {sts : List Stmt} : DSs X W sts (fun _ _ => .no) := ⟨fun pins s σ H D I z => by
  obtain ⟨η, F, B, ρ, M, er, m, w⟩ := z
  exact w.elim⟩
def xPar3 (i j l : Nat) (f g h : XE) : XS := fun η M => (f η M).bind fun d M1 => (g η M1).bind fun e M2 => (h η M2).bind fun k M3 => .ok (.nx (((η.set i (some d)).set j (some e)).set l (some k))) M3
theorem ds_par3 {i j l : Nat} {x y z : Str} {px py pz pt : Pos} {kt k2 pt2} (hc : X.calm = true) (hN : X.N.Nodup) (hij : i ≠ j ∧ i ≠ l ∧ j ≠ l) (ha : DE X W a f) (hb : DE X W b g) (hh : DE X W c h) (hi : X.N[i]? = some x := by rfl) (hj : X.N[j]? = some y := by rfl) (hl : X.N[l]? = some z := by rfl)
    (hx : X.env.scope.names.lookup x = some .local := by rfl) (hy : X.env.scope.names.lookup y = some .local := by rfl) (hz : X.env.scope.names.lookup z = some .local := by rfl)
    (hw : swappedStores [.Tuple [.Name x px, .Name y py, .Name z pz] kt pt] (.Tuple [a, b, c] k2 pt2) X.env = pure (some [x, y, z]) := by rfl)
    (hs : swapsWithSole [.Tuple [.Name x px, .Name y py, .Name z pz] kt pt] (.Tuple [a, b, c] k2 pt2) pos.line X.env = pure false := by rfl)
    (hs1 : starEach [a, b, c] X.env = (false, eval a X.env) :: starEach [b, c] X.env := by rfl) (hs2 : starEach [b, c] X.env = (false, eval b X.env) :: starEach [c] X.env := by rfl) (hs3 : starEach [c] X.env = (false, eval c X.env) :: starEach [] X.env := by rfl) :
    DS X W (.Assign [.Tuple [.Name x px, .Name y py, .Name z pz] kt pt] (.Tuple [a, b, c] k2 pt2) pos) (xPar3 i j l f g h) :=
  PS.imp (ps_par3 hc hN hi hj hl hij.1 hij.2.1 hij.2.2 hx hy hz (pa_cons ha (pa_cons hb (pa_cons hh pa_nil hs3) hs2) hs1) hw hs) fun E σ H q => by
  obtain ⟨η, F, B, ρ, M, er, m, w⟩ := q
  refine ⟨η, F, B, ρ, M, er, m, w.bind fun d M1 B1 ρ1 H1 l1 m1 w1 v rv => ?_⟩
  refine ⟨η, F, B1, ρ1, M1, er.mono l1, m1, w1.bind fun e M2 B2 ρ2 H2 l2 m2 w2 v2 rv2 => ?_⟩
  refine ⟨η, F, B2, ρ2, M2, er.mono (l1.trans l2), m2, w2.bind fun k M3 B3 ρ3 H3 l3 m3 w3 v3 rv3 => ?_⟩
  exact ⟨v, v2, v3, rfl, Wp.ret (P := FlP X.K E) w3 m3 _ ((((er.mono ((l1.trans l2).trans l3)).set i ((rv.mono l2).mono l3)).set j (rv2.mono l3)).set l rv3)⟩
end
end Dn

/-! DnExc: defs that may raise; raise of an own class over ValueError; try: e / except C as n -/
namespace Dn
open PySem PySem.Spec PyProof.Rows L2 Evl
/-- the promise of a def that may raise -/
def spX (K : PySem.W.Frag) (mg : Str → Option Value) (n : Nat) (f : Fn) : Sp := fun vs H Q E => ∃ (ds : List D) (F B : Hp) (ρ : List Addr) (M : Mem), ds.length = n ∧ Rps K B ρ ds vs ∧ MR K F B ρ M H ∧ Wp K mg F B ρ E (fun d B' ρ' H' => ∀ v, Rp K B' ρ' d v → Q v H') (f ds M)
structure FnDX (P : Program) (w : World) (K : PySem.W.Frag) (mg : Str → Option Value) (base : Heap) (k : Nat) (x : Str) (n : Nat) (f : Fn) : Prop where
  ex : ∃ (a : Addr) (fd : FuncData) (ps : List Str), FnOk P w K mg base (L2.CX P w) k a fd ps (spX K mg n f) ∧ mg x = some (.ref a) ∧ PySem.W.keepIn K (.ref a) = true ∧ Binds K fd ps []
theorem fnX_okE {P : Program} {w : World} {K : PySem.W.Frag} {mg : Str → Option Value} {base : Heap} {x qual : Str} {st : Stmt} {f : Addr} {fd : FuncData} {N ps : List Str} {k n m lv : Nat} {body : XS} {fF : Fn} (F : Fun K x qual st f fd) (S : FnScope N ps (defScope st))
    (hf : fF = callB n m body) (hn : ps.length = n) (hm : N.length = m) (hlv : lv = k + 1)
    (hb : ∀ (cdv : Value) (A : Around) (outer : List Env) (s : Shared) (H : Hp) (E : XK) (W : WX), Room k (A.deeper (envOfC qual (defScope st) s.heap.objs.size f cdv)) → Takes (cxOf (L2.CX P w) P w K mg base N qual (defScope st) f cdv A outer s H E) W →
      PassesOwn (model P w) (A.deeper (envOfC qual (defScope st) s.heap.objs.size f cdv)) (envOfC qual (defScope st) s.heap.objs.size f cdv) (cxOf (L2.CX P w) P w K mg base N qual (defScope st) f cdv A outer s H E).xe → DSs (cxOf (L2.CX P w) P w K mg base N qual (defScope st) f cdv A outer s H E) W (defBody st) body) :
    FnOk P w K mg base (L2.CX P w) lv f fd ps (spX K mg n fF) := by
  subst hf hn hm hlv
  refine F.okX S (fun vs H Q E h => ?_) (fun cdv A outer s H vs Q E hr h => ?_)
  · obtain ⟨ds, _, _, _, _, hl, r, _⟩ := h
    rw [← r.len]
    exact hl
  · obtain ⟨ds, Fr, B, ρ, M, hl, r, m, wp⟩ := h
    refine ⟨_, hb cdv A outer s H E (fun c d _ H => E c d H) hr (takes_of rfl rfl rfl rfl) (passes_of rfl), ?_⟩
    have e := er_start (N := N) r
    rw [hl] at e
    refine ⟨_, Fr, B, ρ, M, e, m, ?_⟩
    unfold callB at wp
    rw [if_pos hl] at wp
    exact wp.bind fun fl M1 B1 ρ1 H1 l1 m1 w1 => by
      cases fl with
      | nx η' => exact fun σ' _ => Wp.ret w1 m1 _ .non
      | rt d => exact fun v rv => Wp.ret w1 m1 v rv
      | bk η' => exact w1.elim
      | ct η' => exact w1.elim
section
variable {X : Cx} {W : WX} {e : Expr} {es : List Expr} {fa : XA} {g : XE} {pos : Pos}
theorem de_callX {k n : Nat} {x : Str} {f : Fn} {p0 : Pos} (tk : Takes X W) (G : FnDX X.prog X.w X.K X.mg X.base k x n f) (hr : Room k X.A) (hg : Gl X x) (ha : DA X W (e :: es) fa) (hdb : (x == ("__debug__" : Str)) = false := by decide)
    (he : starEach (e :: es) X.env = (false, eval e X.env) :: starEach es X.env := by rfl) (hpl : (backTo pos (starEach es X.env)).any (·.1) = false := by rfl) : DE X W (.Call (.Name x p0) (e :: es) [] pos) (xFn n f fa) := by
  obtain ⟨ad, fd, ps, F, hm, hk, hb⟩ := G.ex
  refine PE.imp (pe_callSD (E := fun σ c d H => W c d σ H) F hr hg hm hk hb .nil (fun σ pins H s e s' I c => tk e s' (XE.of_call I (fun _ _ _ h => h) c)) ha hdb he hpl) fun σ H Q z => ?_
  obtain ⟨η, Fr, B, ρ, M, er, m, w⟩ := z
  refine ⟨η, Fr, B, ρ, M, er, m, w.bind fun ds M1 B1 ρ1 H1 l1 m1 w1 vs rv => ?_⟩
  split at w1
  · next hl =>
    rw [List.append_nil]
    exact ⟨ds, Fr, B1, ρ1, M1, hl, rv, m1, w1⟩
  · exact w1.elim
/-- what an own class's __init__ does: a field, and its name -/
def spI (K : PySem.W.Frag) (C : Addr) (f nm : Str) : Sp := fun vs H Q _ => ∃ (a : Addr) (y : V), vs = [.ref a, y] ∧ H a = some (exo a C none) ∧ ∀ dx, H dx = none → dx ≠ a → Q .non (upd (upd (upd H dx (exd dx [(f, y)])) a (exo a C (some dx))) dx (exd dx [("called", .str nm), (f, y)]))
structure XcD (P : Program) (w : World) (K : PySem.W.Frag) (mg : Str → Option Value) (base : Heap) (k : Nat) (x f : Str) : Prop where
  ex : ∃ (C fI : Addr) (fd : FuncData) (ps : List Str), mg x = some (.ref C) ∧ OexC K C ∧ PySem.W.findIn K (.ref C) "__init__" = some (some (.ref fI)) ∧ PySem.W.typeIn K (.ref fI) = some (.type "function") ∧ FnOk P w K mg base CX0 k fI fd ps (spI K C f x) ∧ Binds K fd ps []
def xRaise (x f : Str) (g : XE) : XS := fun η M => (g η M).bind fun d M1 => .ex ⟨x, [("called", .str x), (f, d)]⟩ M1
theorem ds_raise {k : Nat} {x f : Str} {p p' : Pos} (hc : X.calm = true) (tk : Takes X W) (G : XcD X.prog X.w X.K X.mg X.base k x f) (hr : Room (k + 1) X.A) (hg : Gl X x) (he : DE X W e g) (hdb : (x == ("__debug__" : Str)) = false := by decide)
    (hs : starEach [e] X.env = (false, eval e X.env) :: starEach [] X.env := by rfl) (hpl : (backTo pos (starEach [] X.env)).any (·.1) = false := by rfl) : DS X W (.Raise (some (.Call (.Name x p) [e] [] pos)) none p') (xRaise x f g) := by
  obtain ⟨C, fI, fd, ps, hm, T, iC, tI, F1, hb⟩ := G.ex
  refine PS.imp (ps_raise hc tk (pmk_oex T iC tI F1 hr hb .nil passW hg hm (pa_cons he pa_nil hs) hdb hs hpl)) fun E σ H z => ?_
  obtain ⟨η, F, B, ρ, M, er, m, w⟩ := z
  refine ⟨η, F, B, ρ, M, er, m, w.bind fun d M1 B1 ρ1 H1 l1 m1 w1 v rv => ?_⟩
  refine ⟨by simp, fun a na => ⟨a, v, rfl, upd_same, fun dx nd ne => ⟨rfl, dx, [("called", .str x), (f, v)], ?_, upd_same, ?_, ?_⟩⟩⟩
  · rw [upd_ne (Ne.symm ne), upd_same]
  · rw [upd_ne ne] at nd
    exact nd
  · rw [upd_ne ne] at nd
    have e : upd (del (upd (upd (upd (upd H1 a (exo a C none)) dx (exd dx [(f, v)])) a (exo a C (some dx))) dx (exd dx [("called", .str x), (f, v)])) a) dx (.xd [("called", .str x), (f, v)]) = upd H1 dx (.xd [("called", .str x), (f, v)]) := by
      funext b
      by_cases hb1 : b = dx
      · rw [hb1, upd_same, upd_same]
      · rw [upd_ne hb1, upd_ne hb1]
        by_cases hb2 : b = a
        · rw [hb2, del_same, na]
        · rw [del_ne hb2, upd_ne hb1, upd_ne hb2, upd_ne hb1, upd_ne hb2]
    rw [e]
    refine w1 (.ref C) (some dx) B1 ρ1 _ (Le.refl _ _) (m1.more (Ex.new nd)) ⟨hm, dx, _, rfl, upd_same, .cons ⟨rfl, .str _⟩ (.cons ⟨rfl, rv⟩ .nil)⟩ σ
end
end Dn

/-! DnExc2: isinstance of a caught error with fields -/
namespace Dn
open PySem PySem.Spec PySem.Calls PySem.W PyProof.Rows
section
variable {prog : Program} {w : World} {A : Around} {E : Value → Shared → Prop} {s : Shared} {K : Frag} {x D : Addr} {ox : Obj} {od : Option Obj}
theorem obj_data {C : Addr} {nm : Str} {dv gv : Value} (h1 : (clsIn K C).isSome = true) (h2 : findIn K (.ref C) nm = some (some dv)) (h3 : specialIn K dv "__get__" = some (some gv)) (h4 : takesIn K dv = some true) : findObj K C od nm = some (.bind gv dv) := by
  obtain ⟨cd, h1⟩ := Option.isSome_iff_exists.mp h1
  unfold findObj
  rw [h1, Option.bind_some, h2, Option.bind_some]
  simp [h3, h4]
theorem exc_class {Q : Option Value → Shared → Prop} (c : L2.ExcC K D) (KI : K.In s.heap) (J : InstAt s.heap x ox D od) (q : Q (some (.ref D)) { s with toks := s.toks + 1 }) : wpAny (model prog w) A (getAttr? (.ref x) "__class__") Q E s := by
  have fo : findObj K D od "__class__" = some (.bind (.builtin "getset_descriptor.__get__") (.builtin "object.__class__")) := obj_data (by obtain ⟨cd, hc, _⟩ := any_some c.hd; rw [hc]; rfl) c.ha c.hn c.ht
  obtain ⟨hp, gs, dr, tk, osx⟩ := s
  have a0 := J.type (M := model prog w)
  have a1 := looks_findIn (M := model prog w) KI c.hg
  have a2 := looks_findIn (M := model prog w) KI c.hk
  have a3 := looks_find (M := model prog w) KI J fo
  have sb : Looks (model prog w) hp (isInstance (.ref x) (.type "BaseException")) true := a0.andThen (looks_subIn KI c.hs)
  have n2 : (Value.builtin "BaseException.__getattribute__" == Value.builtin "object.__getattribute__") = false := by decide +kernel
  have n1 : (onTheHeap (Value.ref D) && Value.builtin "BaseException.__getattribute__" == Value.builtin "object.__getattribute__") = false := by rw [n2, Bool.and_false]
  have n0 : (false && onTheHeap (Value.builtin "BaseException.__getattribute__")) = false := rfl
  unfold getAttr? getAttrBy? getAttrBy
  refine wpAny_bind (wpAny_mkText (wpAny_bind (wpAny_attempt (wpAny_holding (wpAny_bind (a0.at (wpAny_bind (a1.at ?_))))))))
  show wpAny _ _ (if (onTheHeap (Value.ref D) && Value.builtin "BaseException.__getattribute__" == Value.builtin "object.__getattribute__") = true then _ else _) _ _ (Shared.mk _ _ _ _ _)
  rw [n1, if_neg Bool.false_ne_true]
  unfold getAttrByItsOwn hookBefore
  refine wpAny_bind ?_
  have n3 : onTheHeap (Value.ref D) = true := rfl
  rw [if_pos n3]
  refine a2.at (wpAny_bind (wpAny_attempt (wpAny_holding ?_)))
  unfold callGetattribute
  rw [n0, if_neg Bool.false_ne_true]
  unfold boundAndCalled
  rw [PySem.F.excAttr_ValueError.ga.bind (Value.ref x)]
  refine wpAny_bind (wpAny_pure ?_)
  show wpAny _ _ (call (.builtin "BaseException.__getattribute__") [.ref x, .str "__class__" tk]) _ _ _
  refine wpAny_call (codeAny_call_builtin PySem.F.excAttr_ValueError.ga.plain PySem.F.entry_bexc_ga (@check_slot (model prog w) _ _ ⟨hp, gs, dr, tk + 1, osx⟩ "BaseException.__getattribute__" "BaseException" "__getattribute__" (.ref x) [.str "__class__" tk] [] _ (by decide +kernel) (by decide +kernel) sb (PySem.F.args_bexc_ga (.ref x) (.str "__class__" tk)) ?_))
  unfold Builtin.«object.__getattribute__»
  refine wpAny_bind (wpAny_of_eq (a := ((Value.ref x : Value), [Value.str "__class__" tk])) (by first | rfl | (simp only [slotArgs]; rfl)) ?_)
  refine wpAny_bind (wpAny_pure (wpAny_bind (a0.at (wpAny_bind (a3.at ?_)))))
  show wpAny _ _ (holding [Value.builtin "object.__class__"] (call (.builtin "getset_descriptor.__get__") [.builtin "object.__class__", .ref x, .ref D]) >>= ret) _ _ (Shared.mk _ _ _ _ _)
  refine wpAny_bind (wpAny_holding (wpAny_call (class_get (s := ⟨hp, gs, dr, tk + 1, osx⟩) (ox := ox) (od := od) KI J c.hm (wpAny_pure ?_))))
  show wpAny _ _ (handedOut (.ref D)) _ _ _
  rw [handedOut_of (v := .ref D) rfl]
  first
    | exact wpAny_pure (wpAny_pure q)
    | exact wpAny_pure q
    | exact wpAny_pure (wpAny_bind (wpAny_pure (wpAny_pure q)))
theorem kitX_exc (c : L2.ExcC K D) : KitX K (.ref x) (.ref D) (fun h => InstAt h x ox D od) where
  ty := fun _ _ _ J => J.type
  it := fun _ _ KI _ => by
    obtain ⟨cd, hc, _⟩ := any_some c.hd
    unfold clsIn at hc
    split at hc
    · rename_i c1 d1 cd1 sl1 h1
      intro A1 Q1 E1 s1 k q
      unfold isType loadHead
      exact wpAny_bind (wpAny_loadPart (k _ _ (KI _ _ h1)) (wpAny_pure q))
    · cases hc
  ne := fun h tp dd its n sl KI htp => by
    obtain ⟨cd, hc, _⟩ := any_some c.hd
    refine Bool.eq_false_iff.mpr fun q => ?_
    have e : D = tp := Value.ref.inj (beq_iff_eq.mp q)
    subst e
    unfold clsIn at hc
    split at hc
    · rename_i c1 d1 cd1 sl1 h1
      cases (KI _ _ h1).symm.trans htp
    · cases hc
  ca := fun KI J k => exc_class c KI J k
end
end Dn
namespace Dn
open PySem PySem.Spec PyProof.Rows L2 Evl
section
variable {X : Cx} {a C dd : Addr} {oe : Obj} {pn : List (Addr × Obj)}
theorem inst_exc {pins : List (Addr × Obj)} {σ : L2.St} {H : Hp} {s : Shared} {gs : List (Str × V)} (hz : Zc (.ref C) (some dd) oe) (hf : ∃ vs, oe.data = .fields vs) (I : Inv (X.suite a ((a, oe) :: pn)) pins σ H s) (hd : H dd = some (.xd gs)) : ∃ od, PySem.W.InstAt s.heap a oe C od := by
  obtain ⟨ha, _⟩ := I.pin (a, oe) (List.mem_append_left _ List.mem_cons_self)
  obtain ⟨vs, hv⟩ := hf
  have hx : ObjOk X.prog X.w H s.heap dd (.xd gs) := I.hok dd _ hd
  obtain ⟨mA, hns, _⟩ := hx
  obtain ⟨od, ho, _⟩ := lookIn_ns hns
  exact ⟨some od, ha, hz.1, by unfold PySem.W.notCls; rw [hv] <;> rfl, by rw [hz.2]; exact ho⟩
/-- isinstance(e, c), e the caught one -/
theorem call_isX1 (c : ExcC X.K C) (hz : Zc (.ref C) (some dd) oe) (hf : ∃ vs, oe.data = .fields vs) : CallR (X.suite a ((a, oe) :: pn)) (.builtin "isinstance") (fun xs H Q => ∃ (k : V) (u : Value) (b : Bool) (gs : List (Str × V)), xs = [.ref a, k] ∧ ClsV k u ∧ H dd = some (.xd gs) ∧ PySem.W.kitOne X.K (.ref C) u = some b ∧ Q (.bl b) H) := by
  intro pins s σ H xs us Q I r h
  obtain ⟨k, u, b, gs, rfl, hk, hd, e, q⟩ := h
  obtain ⟨u1, u2, rfl, r1, r2⟩ := vals2 r
  cases hk.eq r2
  cases (show u1 = Value.ref a from r1)
  obtain ⟨od, J⟩ := inst_exc hz hf I hd
  exact PySem.W.kia_one (kitX_exc c) I.kIn J e (fun z => nomatch z) fun tk => ⟨.bl b, H, I.tok tk, rfl, q⟩
/-- isinstance(e, (c, ..)) -/
theorem call_isXT (c : ExcC X.K C) (hz : Zc (.ref C) (some dd) oe) (hf : ∃ vs, oe.data = .fields vs) : CallR (X.suite a ((a, oe) :: pn)) (.builtin "isinstance") (fun xs H Q => ∃ (tp : Addr) (ks : List V) (ws : List Value) (b : Bool) (gs : List (Str × V)), xs = [.ref a, .ref tp] ∧ H tp = some (.tup ks) ∧ Paired ClsV ks ws ∧ H dd = some (.xd gs) ∧ PySem.W.kitAny X.K (.ref C) ws = some b ∧ Q (.bl b) H) := by
  intro pins s σ H xs us Q I r h
  obtain ⟨tp, ks, ws, b, gs, rfl, hT, hk, hd, e, q⟩ := h
  obtain ⟨u1, u2, rfl, r1, r2⟩ := vals2 r
  cases (show u2 = Value.ref tp from r2)
  cases (show u1 = Value.ref a from r1)
  obtain ⟨od, J⟩ := inst_exc hz hf I hd
  obtain ⟨_, its, rv, o, h1, h2, n, h3⟩ := (show ObjOk X.prog X.w H s.heap tp (.tup ks) from I.hok tp _ hT)
  cases ClsV.all hk rv
  obtain ⟨oc, od', dt, sl⟩ := o
  simp only at h2 h3
  subst h2 h3
  exact PySem.W.kia_tup (kitX_exc c) I.kIn J h1 e (fun z => nomatch z) fun tk => ⟨.bl b, H, I.tok tk, rfl, q⟩
end
end Dn

/-! DnExc3: the __init__ of an own class over ValueError; try .. except X as e, refused at a number -/
namespace Dn
open PySem PySem.Spec PyProof.Rows L2 Evl
def tInit (K : PySem.W.Frag) (f nm : Str) : TS := tSeq (tDrop (tVeI K (tCons (tVar 0) (tCons (tC (.str nm)) tNil)))) (tSeq (tOst K f (tVar 0) (tVar 1)) (tOst K "called" (tVar 0) (tC (.str nm))))
theorem init_ok {P : Program} {w : World} {K : PySem.W.Frag} {mg : Str → Option Value} {base : Heap} {qual : Str} {st : Stmt} {fI C : Addr} {fd : FuncData} {N ps : List Str} {k : Nat} {f nm : Str} (F : Fun K "__init__" qual st fI fd) (S : FnScope N ps (defScope st)) (hN : N.length = 2) (hp : ps.length = 2)
    (T : OexC K C) (h1 : PySem.W.findIn K (.ref C) f = some none) (h2 : PySem.W.findIn K (.ref C) "called" = some none)
    (hb : ∀ (cdv : Value) (A : Around) (outer : List Env) (s : Shared) (H : Hp) (E : XK), PSs (cxOf CX0 P w K mg base N qual (defScope st) fI cdv A outer s H E).nox (defBody st) (tInit K f nm)) : FnOk P w K mg base CX0 (k + 1) fI fd ps (spI K C f nm) := by
  refine F.ok S (fun vs H Q E h => ?_) (fun cdv A outer s H vs Q E hr h => ⟨_, hb cdv A outer s H E, ?_⟩)
  · obtain ⟨a, y, rfl, _⟩ := h
    rw [hp]
    rfl
  · obtain ⟨a, y, rfl, ha, q⟩ := h
    have e0 : L2.start N [V.ref a, y] = [some (.ref a), some y] := by simp [L2.start, hN]
    rw [e0]
    refine ⟨.ref a, rfl, a, C, [.str nm], rfl, by simp, T, ha, ?_⟩
    refine ⟨y, rfl, .ref a, rfl, a, C, rfl, T, h1, .inl ⟨ha, fun dx nd ne => ?_⟩⟩
    exact ⟨.ref a, rfl, a, C, rfl, T, h2, .inr ⟨dx, [(f, y)], upd_same, by rw [upd_ne ne, upd_same], by simp, q dx nd ne⟩⟩
/-- what must stand of a class that is caught, with six others that it is none of -/
structure XsD (K : PySem.W.Frag) (mg : Str → Option Value) (x f : Str) (ns : List Str) : Prop where
  ex : ∃ (C : Addr) (Cs : List Addr), mg x = some (.ref C) ∧ Paired (fun n c => mg n = some (.ref c)) ns Cs ∧ ExcC K C ∧ XfC K C ∧ PySem.W.findIn K (.ref C) f = some none ∧ PySem.W.exmOne K (.ref C) (.ref C) = some true ∧ PySem.W.kitAny K (.ref C) (Cs.map Value.ref) = some false ∧ PySem.W.kitOne K (.ref C) (.type "ValueError") = some true
/-- try: e / except x as n: refused at the number that is looked for, by x alone -/
def xBarred (x f : Str) (ie io ia : Nat) (g : XE) : XS := fun η M => match g η M with
  | .ok _ M1 => .ok (.nx η) M1
  | .ex e M1 => match e.fs.lookup f, η[ia]? with
    | some (.int i), some (some (.int j)) => if e.cls = x ∧ ie < η.length ∧ io < η.length ∧ i = j ∧ i.natAbs.log2 < 1920 then .ok (.rt (.bl true)) M1 else .no
    | _, _ => .no
  | .no => .no
def rXT (K : PySem.W.Frag) (C a dd : Addr) : List V → Hp → VK → Prop := fun xs H Q => ∃ (tp : Addr) (ks : List V) (ws : List Value) (b : Bool) (gs : List (Str × V)), xs = [.ref a, .ref tp] ∧ H tp = some (.tup ks) ∧ Paired ClsV ks ws ∧ H dd = some (.xd gs) ∧ PySem.W.kitAny K (.ref C) ws = some b ∧ Q (.bl b) H
def rX1 (K : PySem.W.Frag) (C a dd : Addr) : List V → Hp → VK → Prop := fun xs H Q => ∃ (k : V) (u : Value) (b : Bool) (gs : List (Str × V)), xs = [.ref a, k] ∧ ClsV k u ∧ H dd = some (.xd gs) ∧ PySem.W.kitOne K (.ref C) u = some b ∧ Q (.bl b) H
def rRp : List V → Hp → VK → Prop := fun xs H Q => ∃ i, xs = [.int i] ∧ i.natAbs.log2 < 1920 ∧ Q (.str (toString i)) H
def tSuite (K : PySem.W.Frag) (C c1 c2 c3 c4 c5 c6 : Addr) (f : Str) (ie io ia : Nat) (a dd : Addr) : TS :=
  tSeq (tAsg (tCB (rXT K C a dd) (tCons (tVar ie) (tCons (tTup (tCons (tC (.ref c1)) (tCons (tC (.ref c2)) (tCons (tC (.ref c3)) (tCons (tC (.ref c4)) (tCons (tC (.ref c5)) (tCons (tC (.ref c6)) tNil))))))) tNil))) (gName io))
    (tRet (tAndV (tOp rEq (tCB rRp (tCons (tXf a (.ref C) (some dd) C f (tVar ie)) tNil)) (tCB rRp (tCons (tVar ia) tNil))) (tAndV (tCB (rX1 K C a dd) (tCons (tVar ie) (tCons (tC (.ty "ValueError")) tNil))) (tNotV (tVar io)))))
theorem clsV_all {Cs : List Addr} : Paired ClsV (Cs.map V.ref) (Cs.map Value.ref) := by
  induction Cs with
  | nil => exact .nil
  | cons c r ih => exact .cons (.own c) ih
theorem look_rel {K : PySem.W.Frag} {B : Hp} {ρ : List Addr} {f : Str} {d : D} : ∀ {fs : List (Str × D)} {gs : List (Str × V)}, Paired (fun (p : Str × D) (q : Str × V) => p.1 = q.1 ∧ Rp K B ρ p.2 q.2) fs gs → fs.lookup f = some d → ∃ v, gs.lookup f = some v ∧ Rp K B ρ d v
  | [], _, _, h => by cases h
  | (k, d') :: fs, (k', v') :: gs, .cons ⟨e1, r1⟩ t, h => by
    cases e1
    rw [List.lookup_cons] at h ⊢
    split at h
    · cases h
      exact ⟨v', rfl, r1⟩
    · exact look_rel t h
section
variable {X : Cx} {W : WX} {cl : Expr} {g : XE}
theorem ds_barred {ie io ia : Nat} {n x f n1 n2 n3 n4 n5 n6 xo xa : Str} {kk : _} {p1 np hp tp q1 q2 q3 q4 q5 q6 r1 r2 r3 r4 r5 r6 r7 r8 s1 s2 s3 s4 s5 s6 s7 s8 m1 m2 m3 m4 m5 m6 : Pos} (G : XsD X.K X.mg x f [n1, n2, n3, n4, n5, n6]) (hs : X.stack = X.env :: X.outer) (hf : X.env.frame = some X.env.locals) (hN : X.N.Nodup)
    (hg : Gl X x ∧ (x == ("__debug__" : Str)) = false) (hne : ie ≠ io ∧ ie ≠ ia ∧ io ≠ ia) (hi : X.N[ie]? = some n) (ho : X.N[io]? = some xo) (ha : X.N[ia]? = some xa) (hln : X.env.kindOf n = some .local)
    (vn : Vis X.env.scope n) (vo : Vis X.env.scope xo) (va : Vis X.env.scope xa) (lo : Loc X.env.scope xo) (fo : X.fn xo = true ∨ X.env.scope.names.lookup xo = some .local)
    (hdb : (n == ("__debug__" : Str)) = false ∧ (n == ("__classdict__" : Str)) = false ∧ (xo == ("__debug__" : Str)) = false ∧ (xo == ("__classdict__" : Str)) = false ∧ (xa == ("__debug__" : Str)) = false ∧ (xa == ("__classdict__" : Str)) = false)
    (g1 : Gl X n1 ∧ (n1 == ("__debug__" : Str)) = false) (g2 : Gl X n2 ∧ (n2 == ("__debug__" : Str)) = false) (g3 : Gl X n3 ∧ (n3 == ("__debug__" : Str)) = false) (g4 : Gl X n4 ∧ (n4 == ("__debug__" : Str)) = false) (g5 : Gl X n5 ∧ (n5 == ("__debug__" : Str)) = false) (g6 : Gl X n6 ∧ (n6 == ("__debug__" : Str)) = false)
    (gi : Gl X "isinstance") (mi : X.mg "isinstance" = none) (gr : Gl X "repr") (mr : X.mg "repr" = none) (gv : Gl X "ValueError") (mv : X.mg "ValueError" = none)
    (hb : ∀ (W : WX) (pn : List (Addr × Obj)) (xe : Value → Shared → Prop), Takes (X.tr pn xe) W → DE (X.tr pn xe) W cl g)
    (hsw : swapsWith cl none p1.line X.env = pure false := by rfl) (hba : attributeBase (.Name n r2) f X.env (eval (.Name n r2) X.env) = eval (.Name n r2) X.env := by rfl)
    (hsw2 : swapsWith (.Call (.Name "isinstance" q2) [.Name n q3, .Tuple [.Name n1 m1, .Name n2 m2, .Name n3 m3, .Name n4 m4, .Name n5 m5, .Name n6 m6] kk q4] [] q5) (some (.Name xo q1)) q6.line X.env = pure false := by rfl) :
    DS X W (.Try [.Expr cl p1] [.ExceptHandler (some (.Name x np)) (some n) [.Assign [.Name xo q1] (.Call (.Name "isinstance" q2) [.Name n q3, .Tuple [.Name n1 m1, .Name n2 m2, .Name n3 m3, .Name n4 m4, .Name n5 m5, .Name n6 m6] kk q4] [] q5) q6,
      .Return (some (.BoolOp .And [.Compare (.Call (.Name "repr" r1) [.Attribute (.Name n r2) f r3] [] r4) [.Eq] [.Call (.Name "repr" r5) [.Name xa r6] [] r7] r8, .Call (.Name "isinstance" s1) [.Name n s2, .Name "ValueError" s3] [] s4, .UnaryOp .Not (.Name xo s5) s6] s7)) s8] hp] [] [] tp) (xBarred x f ie io ia g) := by
  obtain ⟨C, Cs, hm, hCs, ec, xc, fn0, ex1, ka, ko⟩ := G.ex
  obtain ⟨c1, c2, c3, c4, c5, c6, rfl, e1, e2, e3, e4, e5, e6⟩ : ∃ c1 c2 c3 c4 c5 c6, Cs = [c1, c2, c3, c4, c5, c6] ∧ X.mg n1 = some (.ref c1) ∧ X.mg n2 = some (.ref c2) ∧ X.mg n3 = some (.ref c3) ∧ X.mg n4 = some (.ref c4) ∧ X.mg n5 = some (.ref c5) ∧ X.mg n6 = some (.ref c6) := by
    cases hCs with
    | cons a1 t => cases t with
      | cons a2 t => cases t with
        | cons a3 t => cases t with
          | cons a4 t => cases t with
            | cons a5 t => cases t with
              | cons a6 t => cases t; exact ⟨_, _, _, _, _, _, rfl, a1, a2, a3, a4, a5, a6⟩
  have suite : ∀ (a : Addr) (oe : Obj) (dd : Addr) (pn : List (Addr × Obj)), Zc (.ref C) (some dd) oe → (∃ vs, oe.data = .fields vs) → PSs (X.suite a ((a, oe) :: pn)) _ (tSuite X.K C c1 c2 c3 c4 c5 c6 f ie io ia a dd) := fun a oe dd pn hz hfl =>
    pss_cons (ps_set (X := X.suite a ((a, oe) :: pn)) (pos := q6) (pos' := q1) hN ho lo (pe_callB (p := q2) (pos := q5) (call_isXT ec hz hfl) gi mi bt_isinstance (pa_cons (pe_var (pos := q3) hi vn hdb.1 hdb.2.1) (pa_cons (pe_tup (x1 := kk) (pos := q4) (pa_cons (pe_glob (pos := m1) (v := .ref c1) g1.1 e1 rfl g1.2) (pa_cons (pe_glob (pos := m2) (v := .ref c2) g2.1 e2 rfl g2.2) (pa_cons (pe_glob (pos := m3) (v := .ref c3) g3.1 e3 rfl g3.2)
        (pa_cons (pe_glob (pos := m4) (v := .ref c4) g4.1 e4 rfl g4.2) (pa_cons (pe_glob (pos := m5) (v := .ref c5) g5.1 e5 rfl g5.2) (pa_cons (pe_glob (pos := m6) (v := .ref c6) g6.1 e6 rfl g6.2) pa_nil))))))) pa_nil))) hsw2 fo)
      (pss_one (ps_ret (pos := s8) (pe_and (pos := s7) (pe_cmpR (pos := r8) op_eq (pe_callB (p := r1) (pos := r4) SkE.call_repr_int gr mr PyProof.Rows.Boot.«repr» (pa_cons (pe_xf (pos := r3) xc fn0 hz hfl (pe_var (pos := r2) hi vn hdb.1 hdb.2.1) hba) pa_nil)) (pe_callB (p := r5) (pos := r7) SkE.call_repr_int gr mr PyProof.Rows.Boot.«repr» (pa_cons (pe_var (pos := r6) ha va hdb.2.2.2.2.1 hdb.2.2.2.2.2) pa_nil)) (nomark _))
        (pe_and (pos := s7) (pe_callB (p := s1) (pos := s4) (call_isX1 ec hz hfl) gi mi bt_isinstance (pa_cons (pe_var (pos := s2) hi vn hdb.1 hdb.2.1) (pa_cons (pe_bltn (pos := s3) (v := .ty "ValueError") gv mv Boot.«ValueError» rfl) pa_nil))) (pe_one (pos := s7) (pe_not (pos := s6) (pe_var (pos := s5) ho vo hdb.2.2.1 hdb.2.2.2.1)))))))
  refine PS.imp (ps_try_as (Wout := fun _ _ _ _ => False) (tb := fun W => tDrop (tE X.K X.mg W g)) (ts := fun a cls d D σ H => ∃ dd, cls = .ref C ∧ d = some dd ∧ tSuite X.K C c1 c2 c3 c4 c5 c6 f ie io ia a dd D σ H) hs hf hN hi hln ⟨hg.1, hg.2, .inl hm⟩ takes0 (fun W pn xe tk po => pss_one (ps_expr (hb W pn xe tk) hsw))
    (fun a oe cls d pn hz hfl => ⟨fun pins s σ H D I h => by
      obtain ⟨dd, rfl, rfl, h⟩ := h
      exact (suite a oe dd pn hz hfl).run pins s σ H D I h⟩)) fun E σ H z => ?_
  obtain ⟨η, F, B, ρ, M, er, m, w⟩ := z
  unfold xBarred at w
  refine ⟨η, F, B, ρ, M, er, m, ?_⟩
  cases hgv : g η M with
  | no => rw [hgv] at w; exact w.elim
  | ok d M1 =>
    rw [hgv] at w
    exact fun B1 ρ1 H1 l1 m1 v rv => w B1 ρ1 H1 l1 m1 σ (er.mono l1)
  | ex e M1 =>
    rw [hgv] at w
    dsimp only at w
    intro c dx B1 ρ1 H1 l1 m1 xr
    split at w
    · next i j hfi hia =>
      split at w
      · next hq =>
        obtain ⟨hcls, hie, hio, rfl, hlog⟩ := hq
        obtain ⟨hmc, dd, gs, rfl, hdd, hpr⟩ := xr
        rw [hcls, hm] at hmc
        cases hmc
        obtain ⟨v, hv, rv⟩ := look_rel hpr hfi
        cases rv
        obtain ⟨y, hy, ry⟩ := er.at' ia _ hia
        cases ry
        have hlen := er.len
        refine ⟨true, ex1, fun _ a na => ⟨dd, rfl, rfl, ?_⟩, fun z => by cases z⟩
        refine ⟨.ref a, List.getElem?_set_self (by omega), by simp [sizeLine_eq], fun tp ntp => ?_⟩
        have hne2 : dd ≠ tp := fun z => by rw [z, ntp] at hdd; cases hdd
        have hdd2 : upd H1 tp (.tup [.ref c1, .ref c2, .ref c3, .ref c4, .ref c5, .ref c6]) dd = some (.xd gs) := by rw [upd_ne hne2]; exact hdd
        refine ⟨tp, [.ref c1, .ref c2, .ref c3, .ref c4, .ref c5, .ref c6], _, false, gs, rfl, upd_same, clsV_all (Cs := [c1, c2, c3, c4, c5, c6]), hdd2, ka, ?_⟩
        have s1 : ((σ.set ie (some (V.ref a))).set io (some (V.bl false)))[ie]? = some (some (.ref a)) := by
          rw [List.getElem?_set_ne (Ne.symm hne.1), List.getElem?_set_self (by omega)]
        have s2 : ((σ.set ie (some (V.ref a))).set io (some (V.bl false)))[ia]? = some (some (.int i)) := by
          rw [List.getElem?_set_ne hne.2.2, List.getElem?_set_ne hne.2.1]
          exact hy
        have s3 : ((σ.set ie (some (V.ref a))).set io (some (V.bl false)))[io]? = some (some (.bl false)) := List.getElem?_set_self (by rw [List.length_set]; omega)
        refine ⟨.ref a, s1, rfl, rfl, dd, gs, .int i, rfl, hdd2, hv, i, rfl, hlog, .int i, s2, i, rfl, hlog, rfl, true, ?_, ?_⟩
        · simp
        · rw [if_pos rfl]
          refine ⟨.ref a, s1, .ty "ValueError", _, true, gs, rfl, .ty _, hdd2, ko, true, rfl, ?_⟩
          rw [if_pos rfl]
          exact ⟨.bl false, s3, false, rfl, w B1 ρ1 _ l1 (m1.more (Ex.new ntp)) _ (.bl true)⟩
      · exact w.elim
    · exact w.elim
end
end Dn

/-! DnDcK: dicts by texts or ints made by a comprehension (printed by mkdck.py) -/
namespace Dn
open PySem PyProof.Rows L2 Evl PySem.Spec
theorem dcK_it {J : It} {n : Nat} {G : Hp → Prop} {Y : Nat → Hp → V → Hp → Prop} (w : Walk J n G Y) {g : TG} {tt : TT} {tk tv : TE} {vs : List Nat} {σ : L2.St} {H1 : Hp} {D : Addr} {Qd : Hp → Prop} (Pv : Nat → Hp → Prop) (h0 : Pv 0 (upd H1 D (.dK []))) (hG : ∀ i H, i ≤ n → Pv i H → G H)
    (hs : ∀ i x H H', i < n → Pv i H → Y i H x H' → g x (L2.wipe σ vs) H' fun σ2 H2 => L2.wipe σ2 vs = L2.wipe σ vs ∧ tt σ2 H2 fun b H3 =>
      if b = true then tk σ2 H3 fun y H4 => tv σ2 H4 fun z H5 => ∃ (kvs : List (L2.Key × V)) (k : L2.Key), y = kV k ∧ H5 D = some (.dK kvs) ∧ kvs.length < sizeLine ∧ Pv (i + 1) (upd H5 D (.dK (putK kvs k z))) else Pv (i + 1) H3) (hd : ∀ H, Pv n H → Qd H) :
    ∃ W : Nat → Nat → Hp → Prop, (∃ m, W 0 m (upd H1 D (.dK []))) ∧ ∀ i m H, W i m H → (J.stop i H ∧ Qd H) ∨ (J.go i H ∧ ∃ Nx : Hp → Prop, (∀ H', Nx H' → ∃ m', m' < m ∧ W (i + 1) m' H') ∧ ∀ x H', J.yld i H x H' → g x (L2.wipe σ vs) H' fun σ2 H2 => L2.wipe σ2 vs = L2.wipe σ vs ∧ tt σ2 H2 fun b H3 =>
        if b = true then tk σ2 H3 fun y H4 => tv σ2 H4 fun z H5 => ∃ (kvs : List (L2.Key × V)) (k : L2.Key), y = kV k ∧ H5 D = some (.dK kvs) ∧ kvs.length < sizeLine ∧ Nx (upd H5 D (.dK (putK kvs k z))) else Nx H3) := by
  refine ⟨fun i m H => (m = n - i ∧ i ≤ n) ∧ Pv i H, ⟨n, ⟨rfl, Nat.zero_le _⟩, h0⟩, fun i m H z => ?_⟩
  obtain ⟨⟨rfl, hi⟩, p⟩ := z
  rcases Nat.lt_or_ge i n with hlt | hge
  · exact .inr ⟨w.goes i H hlt (hG i H hi p), Pv (i + 1), fun H' p' => ⟨n - (i + 1), by omega, ⟨rfl, hlt⟩, p'⟩, fun x H' y => hs i x H H' hlt p (w.yields i H x H' hlt (hG i H hi p) y)⟩
  · obtain rfl : i = n := by omega
    exact .inl ⟨w.stops H (hG _ H hi p), hd H p⟩
def xDcKL (g : XG) (t : XT) (fk fv : XE) : List D → Dv → List (L2.Key × D) → Mem → R (List (L2.Key × D))
  | [], _, acc, M => .ok acc M
  | d :: ds, η, acc, M => (g d η M).calm.bind fun η' M1 => (t η' M1).calm.bind fun b M2 => if b = true then (fk η' M2).calm.bind fun y M3 => (fv η' M3).calm.bind fun z M4 => match asK1 y with
      | some k => xDcKL g t fk fv ds η (putD acc k z) M4
      | none => .no
    else xDcKL g t fk fv ds η acc M2
def xDcK (i : XI) (g : XG) (t : XT) (fk fv : XE) (vs : List Nat) : XE := fun η M => (i η M).bind fun ds M1 => if ds.length ≤ 100000 then (xDcKL g t fk fv ds (wipeD η vs) [] M1).bind fun acc M2 => .ok (.ptr M2.length) (M2 ++ [.dK acc]) else .no
theorem putMK {U : XK} {K : PySem.W.Frag} {mg : Str → Option Value} {F B H : Hp} {ρ : List Addr} {M : Mem} {kds : List (L2.Key × D)} {kvs : List (L2.Key × V)} {Q : VK} (m : MR K F B ρ M H) (r : Paired (PrD K B ρ) kds kvs)
    (w : Wp K mg F B ρ U (fun d B' ρ' H' => ∀ v, Rp K B' ρ' d v → Q v H') (.ok (.ptr M.length) (M ++ [.dK kds]))) : ∀ p, H p = none → Q (.ref p) (upd H p (.dK kvs)) := fun p hp => by
  have l : Le B ρ B (ρ ++ [p]) := ⟨Ex.refl B, [p], rfl⟩
  obtain ⟨m', _⟩ := m.alloc (o := .dK kvs) (ob := .dK kds) hp ⟨kvs, upd_same, rpk_of (Paired.mapP r fun _ _ z => ⟨z.1, z.2.mono l⟩)⟩
  exact w _ _ _ l m' _ (.ptr (by rw [← m.len]; simp))
section
variable {X : Cx} {W : WX}
theorem de_dcK {kx vx tg it : Expr} {ifs : List Expr} {scope : Scope} {own : List (Str × Nat)} {pos : Pos} {fi : XI} {ts : List Nat} {gt : XG} {t : XT} {fk fv : XE} {W' : WX} {k : Nat} (hr : Room k X.A) (hc : X.calm = true) (hN : X.N.Nodup) (hi : DI X W tg it fi) (ok : BlkOk X.N X.env.scope scope own)
    (hg : ∀ (s : Shared) (H : Hp) (C : Addr) (cl : List (Str × Addr)) (fp : List Addr), DG (X.blk s H scope (compEnvC scope cl C X.env) fp) W' tg ts gt) (ht : ∀ (s : Shared) (H : Hp) (C : Addr) (cl : List (Str × Addr)) (fp : List Addr), DTs (X.blk s H scope (compEnvC scope cl C X.env) fp) W' ifs t)
    (hk : ∀ (s : Shared) (H : Hp) (C : Addr) (cl : List (Str × Addr)) (fp : List Addr), DE (X.blk s H scope (compEnvC scope cl C X.env) fp) W' kx fk) (hv : ∀ (s : Shared) (H : Hp) (C : Addr) (cl : List (Str × Addr)) (fp : List Addr), DE (X.blk s H scope (compEnvC scope cl C X.env) fp) W' vx fv)
    (hts : ∀ i ∈ ts, i ∈ own.map (·.2)) (hs : ∀ x, foldedSetIterable it X.env x = pure x := by intro _; rfl) : DE X W (.DictComp kx vx [⟨tg, it, ifs, 0⟩] scope pos) (xDcK fi gt t fk fv (own.map (·.2))) := by
  refine PE.imp (pe_dc (g := tG X.K X.mg W' ts gt) (tt := tT X.K X.mg W' t) (tk := tE X.K X.mg W' fk) (tv := tE X.K X.mg W' fv) hc hN hi ok hg ht hk hv hs) fun σ H Q z => ?_
  obtain ⟨η, F, B, ρ, M, er, m, w⟩ := z
  refine ⟨η, F, B, ρ, M, er, m, w.bind fun ds M1 B1 ρ1 H1 l1 m1 w1 J wd => fun p hp => ?_⟩
  split at w1
  · next hlen =>
    obtain ⟨G, Y, wk, hG, hY⟩ := wd.w
    have hFp : F p = none := fresh_back m1.fr hp
    generalize ev : own.map (·.2) = vs at hts w1 ⊢
    refine dcK_it wk (fun i H' => ∃ B' ρ' M' acc dacc, MR X.K F B' ρ' M' H' ∧ Le B1 ρ1 B' ρ' ∧ H' p = some (.dK acc) ∧ B' p = none ∧ p ∉ ρ' ∧ Paired (PrD X.K B' ρ') dacc acc ∧ dacc.length ≤ i ∧
        Wp X.K X.mg F B' ρ' (wAt W σ) (fun d B' ρ' H' => ∀ v, Rp X.K B' ρ' d v → Q v H') ((xDcKL gt t fk fv (ds.drop i) (wipeD η vs) dacc M').bind fun a M2 => .ok (.ptr M2.length) (M2 ++ [.dK a])))
      ⟨B1, ρ1, M1, [], [], m1.more (Ex.new hp), Le.refl _ _, upd_same, fresh_back m1.ex hp, m1.notin hp, .nil, Nat.le_refl _, by simpa using w1⟩
      (fun i H' _ ⟨B', ρ', M', _, _, m', l', _⟩ => hG H' (l'.1.trans m'.ex)) (fun i x H' H2 hi z y => ?_) (fun H' z => ?_)
    · obtain ⟨B', ρ', M', acc, dacc, m', l', hp', hB', hρ', ra, hla, w'⟩ := z
      have hd : ds[i]? = some ds[i] := List.getElem?_eq_getElem hi
      rw [List.drop_eq_getElem_cons hi] at w'
      have m'' : MR X.K (upd F p (.dK acc)) B' ρ' M' H' := add_frame m' hp' hB' hρ'
      obtain ⟨B2, l2, m2, r2, _⟩ := hY i ds[i] hd _ B' ρ' M' H' x H2 l' m'' y
      unfold xDcKL at w'
      have e' : ER X.K B2 ρ' (wipeD η vs) (L2.wipe σ vs) := (er.mono ((l1.trans l'))).mono l2 |>.wipe _
      cases h1 : gt ds[i] (wipeD η vs) M' with
      | ex e0 M0 => rw [h1] at w'; exact w'.elim
      | no => rw [h1] at w'; exact w'.elim
      | ok η3 M3 =>
      simp only [h1, R.calm_ok, R.bind_ok] at w'
      refine ⟨ds[i], _, _, B2, ρ', M', r2, e', m2, ?_⟩
      rw [h1]
      intro B3 ρ3 H3 l3 m3 σ3 e3 off3
      refine ⟨wipe_off off3 hts ▸ wipe_off (ts := vs) (σ := σ) ⟨L2.wipe_length _ _, fun j hj => L2.wipe_out hj⟩ fun t ht => ht, ?_⟩
      cases h2 : t η3 M3 with
      | ex e0 M0 => rw [h2] at w'; exact w'.elim
      | no => rw [h2] at w'; exact w'.elim
      | ok bb M4 =>
      simp only [h2, R.calm_ok, R.bind_ok] at w'
      refine ⟨η3, _, B3, ρ3, M3, e3, m3, ?_⟩
      rw [h2]
      intro B4 ρ4 H4 l4 m4
      have lz : Le B' ρ' B4 ρ4 := (l2.trans l3).trans l4
      cases bb with
      | false =>
        simp only [Bool.false_eq_true, if_false] at w' ⊢
        have hp4 : H4 p = some (.dK acc) := m4.fr p _ upd_same
        obtain ⟨hB4, hρ4⟩ := m4.dj p _ upd_same
        exact ⟨B4, ρ4, M4, acc, dacc, m4.less hFp, l'.trans lz, hp4, hB4, hρ4, Paired.mapP ra fun _ _ z => ⟨z.1, z.2.mono lz⟩, by omega, w'.mono lz⟩
      | true =>
        simp only [if_true] at w' ⊢
        cases h3 : fk η3 M4 with
        | ex e0 M0 => rw [h3] at w'; exact w'.elim
        | no => rw [h3] at w'; exact w'.elim
        | ok yy M5 =>
        simp only [h3, R.calm_ok, R.bind_ok] at w'
        refine ⟨η3, _, B4, ρ4, M4, e3.mono l4, m4, ?_⟩
        rw [h3]
        intro B5 ρ5 H5 l5 m5 v5 r5
        cases h4 : fv η3 M5 with
        | ex e0 M0 => rw [h4] at w'; exact w'.elim
        | no => rw [h4] at w'; exact w'.elim
        | ok zz M6 =>
        simp only [h4, R.calm_ok, R.bind_ok] at w'
        refine ⟨η3, _, B5, ρ5, M5, e3.mono (l4.trans l5), m5, ?_⟩
        rw [h4]
        intro B6 ρ6 H6 l6 m6 v6 r6
        split at w'
        · next ky hky =>
          have lz6 : Le B' ρ' B6 ρ6 := (lz.trans l5).trans l6
          have hp6 : H6 p = some (.dK acc) := m6.fr p _ upd_same
          have ey := asK1_snd (r5.mono l6) hky
          subst ey
          have ra6 : Paired (PrD X.K B6 ρ6) dacc acc := Paired.mapP ra fun _ _ z => ⟨z.1, z.2.mono lz6⟩
          have hl := pr_len ra6
          obtain ⟨m7, hB7, hρ7⟩ := drop_frame m6 hFp (.dK (putK acc ky v6))
          have := putD_len dacc ky zz
          exact ⟨acc, ky, rfl, hp6, by rw [sizeLine_eq]; omega, B6, ρ6, M6, putK acc ky v6, putD dacc ky zz, m7, l'.trans lz6, upd_same, hB7, hρ7, putD_snd ra6 r6, by omega, w'.mono lz6⟩
        · exact w'.elim
    · obtain ⟨B', ρ', M', acc, dacc, m', l', hp', hB', hρ', ra, hla, w'⟩ := z
      rw [List.drop_length] at w'
      have hq := putMK (m'.hide hFp hB' hρ') ra w' p (if_pos rfl)
      rw [hide_upd hp'] at hq
      exact hq
  · exact w1.elim
end
end Dn


/-! DnBook: lists unpacked, dict(pairs) by texts, d[k] op= e, dicts of the module, defs held by a name -/
namespace Dn
open PySem PySem.Spec PyProof.Rows L2 Evl
section
variable {X : Cx} {W : WX} {o ti e : Expr} {es : List Expr} {f g k : XE} {pos tpos : Pos}
/-- a, b, .. = a list -/
def xgLst (n : Nat) (gs : List D → Dv → Mem → R Dv) : XG := fun d η M => match asL M d with
  | some ds => if ds.length = n then gs ds η M else .no
  | none => .no
theorem dg_lst {kk : Nat} {ts : List Nat} {n : Nat} {gs : List D → Dv → Mem → R Dv} (hc : X.calm = true) (h : DGs X W es ts gs) (hn : (assignEach es X.env).length = n := by rfl) (hst : (assignEach es X.env).findIdx? (·.1) = none := by rfl) :
    DG X W (.Tuple es kk pos) ts (xgLst n gs) := PG.imp (pg_lst hc h hn hst) fun v σ H Q z => by
  obtain ⟨d, η, F, B, ρ, M, r, er, m, w⟩ := z
  unfold xgLst at w
  split at w
  · next ds hd =>
    split at w
    · next hl =>
      obtain ⟨a, vs, rfl, hs, rs⟩ := asL_snd m r hd
      exact ⟨a, vs, rfl, hs, by rw [← rs.len]; exact hl, ds, η, F, B, ρ, M, rs, er, m, w⟩
    · exact w.elim
  · exact w.elim
/-! dict(pairs), the keys texts or ints -/
def pairK : D → Option (L2.Key × D)
  | .tup [y, v] => (asK1 y).map fun k => (k, v)
  | _ => none
def pairsK : List D → Option (List (L2.Key × D))
  | [] => some []
  | d :: ds => (pairK d).bind fun p => (pairsK ds).map (p :: ·)
theorem mergeK_snd {K : PySem.W.Frag} {B : Hp} {ρ : List Addr} : ∀ {r : List (L2.Key × D)} {rs acc2 : List (L2.Key × V)} {acc : List (L2.Key × D)}, Paired (PrD K B ρ) r rs → Paired (PrD K B ρ) acc acc2 → Paired (PrD K B ρ) (mergeD acc r) (mergeK acc2 rs)
  | _, _, _, _, .nil, q => q
  | p :: r, q :: rs, acc2, acc, .cons h t, z => by
    show Paired (PrD K B ρ) (mergeD (putD acc p.1 p.2) r) (mergeK (putK acc2 q.1 q.2) rs)
    rw [show p.1 = q.1 from h.1]
    exact mergeK_snd t (putD_snd z h.2)
theorem pairsK_snd {K : PySem.W.Frag} {F B H : Hp} {ρ : List Addr} {M : Mem} (m : MR K F B ρ M H) : ∀ {ds : List D} {vs : List V} {kds : List (L2.Key × D)}, Rps K B ρ ds vs → pairsK ds = some kds → ∃ (ps : List Addr) (kvs : List (L2.Key × V)), vs = ps.map V.ref ∧ Paired (fun p kv => SqT K H p [kV kv.1, kv.2]) ps kvs ∧ Paired (PrD K B ρ) kds kvs
  | _, _, _, .nil, h => by cases h; exact ⟨[], [], rfl, .nil, .nil⟩
  | _, _, _, .cons (d := d) (ds := ds) r rs, h => by
    unfold pairsK at h
    cases h1 : pairK d with
    | none => simp [h1] at h
    | some p =>
      cases h2 : pairsK ds with
      | none => simp [h1, h2] at h
      | some kds =>
        simp [h1, h2] at h
        subst h
        obtain ⟨ps, kvs, e1, e2, e3⟩ := pairsK_snd m rs h2
        unfold pairK at h1
        split at h1
        · next y v =>
          cases hk : asK1 y with
          | none => simp [hk] at h1
          | some k =>
            simp [hk] at h1
            subst h1
            cases r with
            | @tup a vs _ e q z =>
              cases q with
              | cons q1 q2 =>
                cases q2 with
                | cons q3 q4 =>
                  cases q4
                  have ey := asK1_snd q1 hk
                  subst ey
                  exact ⟨a :: ps, (k, _) :: kvs, by rw [e1]; rfl, .cons (ex_t m.ex e) e2, .cons ⟨rfl, q3⟩ e3⟩
        · cases h1
def xDictPK (g : XA) : XE := fun η M => (g η M).bind fun ds M1 => match ds with
  | [d] => (R.of ((asL M1 d).bind pairsK) M1).bind fun kds M2 => .ok (.ptr M2.length) (M2 ++ [.dK (mergeD [] kds)])
  | _ => .no
theorem de_dictPK {fa : XA} {p : Pos} (hc : X.calm = true) (hg : Gl X "dict") (hm : X.mg "dict" = none) (ha : DA X W [e] fa) (hs : starEach [e] X.env = (false, eval e X.env) :: starEach [] X.env := by rfl) (hp : (backTo pos (starEach [] X.env)).any (·.1) = false := by rfl) :
    DE X W (.Call (.Name "dict" p) [e] [] pos) (xDictPK fa) := PE.imp (pe_callTy (call_dictP hc) hg hm bt_dict ha (by decide) (by decide) hs hp) fun σ H Q z => by
  obtain ⟨η, F, B, ρ, M, er, m, w⟩ := z
  refine ⟨η, F, B, ρ, M, er, m, w.bind fun ds M1 B1 ρ1 H1 l1 m1 w1 vs rv => ?_⟩
  split at w1
  · next d =>
    cases rv with
    | cons r rr =>
      cases rr
      cases h1 : asL M1 d with
      | none => rw [h1] at w1; exact w1.elim
      | some es =>
        cases h2 : pairsK es with
        | none => rw [h1] at w1; simp only [Option.bind_some, h2] at w1; exact w1.elim
        | some kds =>
          rw [h1] at w1
          simp only [Option.bind_some, h2, R.of_some, R.bind_ok] at w1
          obtain ⟨a, vs, rfl, hs, rs⟩ := asL_snd m1 r h1
          obtain ⟨ps, kvs, rfl, e2, e3⟩ := pairsK_snd m1 rs h2
          exact ⟨a, ps, kvs, rfl, hs, e2, putMK m1 (mergeK_snd e3 .nil) w1⟩
  · exact w1.elim
/-! d[k] op= e -/
def augD (M : Mem) (n : Nat) (y : D) (v : D) : Option Mem := match M[n]? with
  | some (.dT kds) => (asKey y).bind fun ky => if kds.length < 100000 then some (M.set n (.dT (putD kds ky v))) else none
  | some (.dK kds) => (asK1 y).bind fun ky => if kds.length < 100000 then some (M.set n (.dK (putD kds ky v))) else none
  | _ => none
def xAugD (h : Int → Int → Int) (f g k : XE) : XS := fun η M => (f η M).bind fun l M1 => (g η M1).bind fun y M2 => match l, dgetD M2 l y with
  | .ptr n, some (some (.int a)) => (k η M2).bind fun z M3 => match z with
    | .int b => (R.of (augD M3 n y (.int (h a b))) M3).bind fun M4 _ => .ok (.nx η) M4
    | _ => .no
  | _, _ => .no
theorem ds_augD {op : Operator} {h : Int → Int → Int} {kk : Nat} (hop : InOp X op (fun x y H Q => ∃ i j, x = .int i ∧ y = .int j ∧ Q (.int (h i j)) H)) (hr : Room kk X.A) (ho : DE X W o f) (hi : DE X W ti g) (he : DE X W e k) (ha : ∀ ov iv new, augStore ti ov iv new = (do holding [new, ov, iv] (setItem ov iv new); release [new, ov, iv] []; pure .next) := by intros; rfl) :
    DS X W (.AugAssign (.Subscript o ti tpos) op e pos) (xAugD h f g k) := PS.imp (ps_daug (by have := hr.un; omega) ho hi he hop ha) fun E σ H z => by
  obtain ⟨η, F, B, ρ, M, er, m, w⟩ := z
  refine ⟨η, F, B, ρ, M, er, m, w.bind fun l M1 B1 ρ1 H1 l1 m1 w1 x rx => ?_⟩
  refine ⟨η, F, B1, ρ1, M1, er.mono l1, m1, w1.bind fun dy M2 B2 ρ2 H2 l2 m2 w2 y ry => ?_⟩
  split at w2
  · next n a hd =>
    have rx2 := rx.mono l2
    obtain ⟨ad, ov, rfl, hg, hov, _⟩ := dgetD_snd m2 rx2 ry hd
    obtain ⟨v0, rfl, rv0⟩ := hov.some
    cases rv0
    refine ⟨ad, .int a, rfl, hg, ?_⟩
    refine ⟨η, F, B2, ρ2, M2, er.mono (l1.trans l2), m2, w2.bind fun d M3 B3 ρ3 H3 l3 m3 w3 u ru => ?_⟩
    cases rx2 with
    | @ptr _ _ hp =>
    have hp3 := l3.at hp
    split at w3
    · next b =>
      cases ru
      refine ⟨a, b, rfl, rfl, ?_⟩
      unfold augD at w3
      split at w3
      · next kds hm =>
        cases hk : asKey dy with
        | none => simp only [hk, Option.bind_none] at w3; exact w3.elim
        | some ky =>
          simp only [hk, Option.bind_some] at w3
          split at w3
          · next hlt =>
            obtain ⟨kvs, hH, pr, _⟩ := m3.dictT hp3 hm
            obtain ⟨c, rfl, hb⟩ := asKey_snd m3 (ry.mono l3) hk
            have hl := pr_len pr
            refine ⟨_, DPut.t (v := .int (h a b)) hH hb (by rw [sizeLine_eq]; omega), ?_⟩
            exact w3 _ _ _ (Le.refl _ _) (m3.put (o := .dT (putK kvs ky (.int (h a b)))) (ob := .dT (putD kds ky (.int (h a b)))) hp3 hm (by intro z; cases z) ⟨_, upd_same, putD_snd pr (.int _)⟩) σ (er.mono ((l1.trans l2).trans l3))
          · exact w3.elim
      · next kds hm =>
        cases hk : asK1 dy with
        | none => simp only [hk, Option.bind_none] at w3; exact w3.elim
        | some ky =>
          simp only [hk, Option.bind_some] at w3
          split at w3
          · next hlt =>
            obtain ⟨kvs, hH, pr, _⟩ := m3.dictK hp3 hm
            have ey := asK1_snd ry hk
            subst ey
            have hl := pr_len pr
            refine ⟨_, DPut.k (v := .int (h a b)) hH (by rw [sizeLine_eq]; omega), ?_⟩
            exact w3 _ _ _ (Le.refl _ _) (m3.put (o := .dK (putK kvs ky (.int (h a b)))) (ob := .dK (putD kds ky (.int (h a b)))) hp3 hm (by intro z; cases z) ⟨_, upd_same, rpk_of (putD_snd pr (.int _))⟩) σ (er.mono ((l1.trans l2).trans l3))
          · exact w3.elim
      · exact w3.elim
    · exact w3.elim
  · exact w2.elim
theorem io_add : InOp X .Add (fun x y H Q => ∃ i j, x = .int i ∧ y = .int j ∧ Q (.int (i + j)) H) := fun pins s σ H x y u v Q I rx ry h => in_add pins s σ H x y u v Q I rx ry h
end
end Dn

/-! DnBook2: dicts of the module with text keys; a def that a name holds; keywords of a def with defaults -/
namespace Dn
open PySem PySem.Spec PyProof.Rows L2 Evl
/-- a dict of the module: what is asked of it -/
structure KtD (K : PySem.W.Frag) (w : World) (mg : Str → Option Value) (x : Str) (tin : List (Str × Bool)) (tget : List (Str × D)) : Prop where
  ex : ∃ (d : Addr) (es : Array DictEntry) (n : Nat), mg x = some (.ref d) ∧ PySem.W.nsIn K mainGlobals x = some (some (.ref d)) ∧ KDict K w d es n ∧ (∀ s b, tin.lookup s = some b → ∃ r, PySem.W.nsIn K d s = some r ∧ r.isSome = b) ∧
    ∀ s c, tget.lookup s = some c → ∃ u v, PySem.W.nsIn K d s = some (some u) ∧ RelV v u ∧ ∀ B ρ, Rp K B ρ c v
section
variable {X : Cx} {W : WX} {a b e : Expr} {es : List Expr} {f g : XE} {fa : XA} {pos : Pos} {x : Str} {tin : List (Str × Bool)} {tget : List (Str × D)}
theorem de_glb (G : KtD X.K X.w X.mg x tin tget) (hg : Gl X x) (hd : (x == ("__debug__" : Str)) = false := by decide) : DE X W (.Name x pos) (xC (.fn x)) := by
  obtain ⟨d, es, n, hm, hn, _⟩ := G.ex
  exact sE (pe_glob (v := .ref d) hg hm rfl hd) fun σ H Q η F B ρ M e m w => w.ret m _ (.fn hn)
def inG (neg : Bool) (x : Str) (tin : List (Str × Bool)) : Op2 := fun _ dx dy => match dx, dy with
  | .str s, .fn y => if y = x then (tin.lookup s).map fun b => .bl (if neg then !b else b) else none
  | _, _ => none
theorem od_notInG (G : KtD X.K X.w X.mg x tin tget) : OpD X (compareOp .NotIn) (inG true x tin) := by
  obtain ⟨d, es, n, hm, hn, kd, ht, _⟩ := G.ex
  refine ⟨_, op_notIn_kd kd, fun F B ρ M H vx vy dx dy dz Q m rx ry e k => ?_⟩
  unfold inG at e
  split at e
  · next s y =>
    split at e
    · next hy =>
      subst hy
      cases hl : tin.lookup s with
      | none => simp [hl] at e
      | some b =>
        simp [hl] at e
        subst e
        cases rx
        cases ry with
        | fn hn2 =>
          rw [hn] at hn2
          cases hn2
          obtain ⟨r, e1, e2⟩ := ht s b hl
          exact ⟨s, r, rfl, rfl, e1, by rw [e2]; exact k.same m (.bl _)⟩
    · cases e
  · cases e
def getG (x : Str) (tget : List (Str × D)) : Op2 := fun _ dx dy => match dx, dy with
  | .fn y, .str s => if y = x then tget.lookup s else none
  | _, _ => none
theorem de_getG (G : KtD X.K X.w X.mg x tin tget) (ha : DE X W a f) (hb : DE X W b g) (hs : NoSl b := by intro _ _; rfl) : DE X W (.Subscript a b pos) (xOp (getG x tget) f g) := by
  obtain ⟨d, es, n, hm, hn, kd, _, ht⟩ := G.ex
  have pe : PE X (.Subscript a b pos) (tOp (fun x y H Q => ∃ (z : Str) (u0 : Value) (v0 : V), x = .ref d ∧ y = .str z ∧ PySem.W.nsIn X.K d z = some (some u0) ∧ RelV v0 u0 ∧ Q v0 H) (tE X.K X.mg W f) (tE X.K X.mg W g)) := ⟨fun pins s σ H Q I h => by
    refine subD_of PySem.F.slot_dict_getitem.lookup hs (thn (ha.run pins s σ H _ I h) fun u s1 ⟨vx, H1, I1, rx, q1⟩ => thn (hb.run pins s1 σ H1 _ I1 q1) fun iv s2 ⟨vy, H2, I2, ry, q2⟩ => ?_)
    obtain ⟨z, u0, v0, rfl, rfl, e, r, q⟩ := q2
    cases (show u = Value.ref d from rx)
    exact ⟨kd_type kd I2, op_item_kd kd pins s2 σ H2 (.ref d) (.str z) _ _ Q I2 rfl ry ⟨z, u0, v0, rfl, rfl, e, r, q⟩⟩⟩
  refine PE.imp pe fun σ H Q z => ?_
  obtain ⟨η, F, B, ρ, M, er, m, w⟩ := z
  refine ⟨η, F, B, ρ, M, er, m, w.bind fun dx M1 B1 ρ1 H1 l1 m1 w1 vx rx => ?_⟩
  refine ⟨η, F, B1, ρ1, M1, er.mono l1, m1, w1.bind fun dy M2 B2 ρ2 H2 l2 m2 w2 vy ry => ?_⟩
  unfold getG at w2
  split at w2
  · next y s =>
    split at w2
    · next hy =>
      subst hy
      cases hl : tget.lookup s with
      | none => rw [hl] at w2; exact w2.elim
      | some c =>
        rw [hl] at w2
        have rx2 := rx.mono l2
        cases ry
        cases rx2 with
        | fn hn2 =>
          rw [hn] at hn2
          cases hn2
          obtain ⟨u, v, e1, e2, e3⟩ := ht s c hl
          exact ⟨s, u, v, rfl, rfl, e1, e2, Wp.ret w2 m2 v (e3 _ _)⟩
    · exact w2.elim
  · exact w2.elim
/-! a def that a name holds -/
structure FnG (P : Program) (w : World) (K : PySem.W.Frag) (mg : Str → Option Value) (base : Heap) (k : Nat) (y : Str) (n : Nat) (f : Fn) : Prop where
  ex : ∃ (ad : Addr) (fd : FuncData) (ps : List Str), FnOk P w K mg base CX0 k ad fd ps (spF K mg n f) ∧ PySem.W.nsIn K mainGlobals y = some (some (.ref ad)) ∧ PySem.W.keepIn K (.ref ad) = true ∧ Binds K fd ps []
def xCallL (i n : Nat) (tab : List (Str × Fn)) (fa : XA) : XE := fun η M => match η[i]? with
  | some (some (.fn y)) => match tab.lookup y with
    | some f => (fa η M).bind fun ds M1 => if ds.length = n then f ds M1 else .no
    | none => .no
  | _ => .no
theorem de_callL {k i n : Nat} {nm : Str} {tab : List (Str × Fn)} {p0 : Pos} (G : ∀ y f, tab.lookup y = some f → FnG X.prog X.w X.K X.mg X.base k y n f) (hr : Room k X.A) (ha : DA X W (e :: es) fa) (hN : X.N[i]? = some nm := by rfl) (hv : Vis X.env.scope nm := by first | exact Or.inl rfl | exact Or.inr (Or.inl rfl) | exact Or.inr (Or.inr rfl))
    (hdb : (nm == ("__debug__" : Str)) = false := by decide) (hcd : (nm == ("__classdict__" : Str)) = false := by decide) (he : starEach (e :: es) X.env = (false, eval e X.env) :: starEach es X.env := by rfl) (hpl : (backTo pos (starEach es X.env)).any (·.1) = false := by rfl) :
    DE X W (.Call (.Name nm p0) (e :: es) [] pos) (xCallL i n tab fa) := ⟨fun pins s σ H Q I z => by
  obtain ⟨η, F, B, ρ, M, er, m, w⟩ := z
  unfold xCallL at w
  split at w
  · next y hy =>
    split at w
    · next f hf =>
      obtain ⟨v, hv1, rv⟩ := er.at' i _ hy
      cases rv with
      | @fn ad _ hn =>
        obtain ⟨ad', fd, ps, Fo, hn', hk, hb⟩ := (G y f hf).ex
        rw [hn] at hn'
        cases hn'
        refine (pe_callL (E := E0) (dvs := []) Fo hr hN hv hk hb .nil passW ha hdb hcd he hpl).run pins s σ H Q I ⟨hv1, ?_⟩
        refine ⟨η, F, B, ρ, M, er, m, w.bind fun ds M1 B1 ρ1 H1 l1 m1 w1 vs rvs => ?_⟩
        split at w1
        · next hl =>
          rw [List.append_nil]
          exact ⟨_, ds, F, B1, ρ1, M1, hl, rvs, m1, w1⟩
        · exact w1.elim
    · exact w.elim
  · exact w.elim⟩
end
theorem kbD_of {K : PySem.W.Frag} {x qual : Str} {st : Stmt} {f : Addr} {fd : FuncData} {ps ks : List Str} {kws : List (Str × V)} {n : Nat} (F : FunD K x qual (defArgs st) (defBody st) (defScope st) [] kws f fd) (hk : kws ≠ [])
    (h : ∀ (D : Addr) (doc pm : Value) (an : Option Addr) (cdv ct : Value) (us ws : List Value), us.length = n → ws.length = ks.length → bindArgs (PySem.W.fnOf x qual (defArgs st) (defBody st) (defScope st) .none (.ref D) doc pm an cdv ct) ⟨us, ks.zip ws⟩ = pure (ps.zip (us ++ ws))) :
    KBn K fd ps n ks (fun us ws => us ++ ws) (fun vs zs => vs ++ zs) := by
  obtain ⟨mv, r⟩ := F.kbinds0 n ks [] (fun us _ ws => us ++ ws) hk (fun q hq => by cases hq) (fun r1 _ r3 => r1.append r3) fun D doc pm an cdv ct us mv ws l1 l2 l3 => by
    cases mv with
    | nil => exact h D doc pm an cdv ct us ws l1 l3
    | cons _ _ => cases l2
  exact r
end Dn

/-! DnBook3: name = [.. for .. in a list that may change]; a def that may raise, called where it does not -/
namespace Dn
open PySem PySem.Spec PyProof.Rows L2 Evl
section
variable {X : Cx} {W : WX} {tg it e : Expr} {es : List Expr} {f : XE} {fa : XA} {pos : Pos}
theorem ds_setLcP {i : Nat} {y : Str} {py spos : Pos} {elt : Expr} {ifs : List Expr} {scope : Scope} {own : List (Str × Nat)} {fi : XP} {ts : List Nat} {gt : XG} {t : XT} {W' : WX} {fin : List D → Mem → R D} (hf : FinOk fin) (hc : X.calm = true) (hN : X.N.Nodup) (hi : DP X W tg it fi) (ok : BlkOk X.N X.env.scope scope own)
    (hg : ∀ (s : Shared) (H : Hp) (C : Addr) (cl : List (Str × Addr)) (fp : List Addr), DG (X.blk s H scope (compEnvC scope cl C X.env) fp) W' tg ts gt) (ht : ∀ (s : Shared) (H : Hp) (C : Addr) (cl : List (Str × Addr)) (fp : List Addr), DTs (X.blk s H scope (compEnvC scope cl C X.env) fp) W' ifs t)
    (he : ∀ (s : Shared) (H : Hp) (C : Addr) (cl : List (Str × Addr)) (fp : List Addr), DE (X.blk s H scope (compEnvC scope cl C X.env) fp) W' elt f) (hts : ∀ i ∈ ts, i ∈ own.map (·.2)) (hy : X.N[i]? = some y := by rfl) (hyl : X.env.scope.names.lookup y = some .local := by rfl)
    (hsw : swapsWith (.ListComp elt [⟨tg, it, ifs, 0⟩] scope pos) (some (.Name y py)) spos.line X.env = pure true := by rfl) (hs : ∀ x, foldedSetIterable it X.env x = pure x := by intro _; rfl) :
    DS X W (.Assign [.Name y py] (.ListComp elt [⟨tg, it, ifs, 0⟩] scope pos) spos) (xAsg (xLcP fin fi gt t f (own.map (·.2))) (xgName i)) :=
  PS.imp (ps_setLc (g := tG X.K X.mg W' ts gt) (tt := tT X.K X.mg W' t) (te := tE X.K X.mg W' f) hc hN hy hyl hsw hi ok hg ht he hs) fun E σ H z => de_lcP.lcGo hf hts σ H _ (set_snd E σ H z)
def xFnC (n : Nat) (f : Fn) (fa : XA) : XE := fun η M => (fa η M).bind fun ds M1 => if ds.length = n then (f ds M1).calm else .no
theorem de_callXn {k n : Nat} {x : Str} {f : Fn} {p0 : Pos} (G : FnDX X.prog X.w X.K X.mg X.base k x n f) (hr : Room k X.A) (hg : Gl X x) (ha : DA X W (e :: es) fa) (hdb : (x == ("__debug__" : Str)) = false := by decide)
    (he : starEach (e :: es) X.env = (false, eval e X.env) :: starEach es X.env := by rfl) (hpl : (backTo pos (starEach es X.env)).any (·.1) = false := by rfl) : DE X W (.Call (.Name x p0) (e :: es) [] pos) (xFnC n f fa) := by
  obtain ⟨ad, fd, ps, F, hm, hk, hb⟩ := G.ex
  refine PE.imp (pe_callSD (E := fun _ => E0) F hr hg hm hk hb .nil (fun σ pins H s e s' I c => passL pins σ H s e s' I c) ha hdb he hpl) fun σ H Q z => ?_
  obtain ⟨η, Fr, B, ρ, M, er, m, w⟩ := z
  refine ⟨η, Fr, B, ρ, M, er, m, w.bind fun ds M1 B1 ρ1 H1 l1 m1 w1 vs rv => ?_⟩
  split at w1
  · next hl =>
    rw [List.append_nil]
    refine ⟨ds, Fr, B1, ρ1, M1, hl, rv, m1, ?_⟩
    cases hf : f ds M1 with
    | ok d M2 => rw [hf] at w1; exact w1
    | ex e0 M2 => rw [hf] at w1; exact w1.elim
    | no => rw [hf] at w1; exact w1.elim
  · exact w1.elim
end
theorem FnG.up {P : Program} {w : World} {K : PySem.W.Frag} {mg : Str → Option Value} {base : Heap} {j k : Nat} {y : Str} {n : Nat} {f : Fn} (G : FnG P w K mg base j y n f) (h : j ≤ k) : FnG P w K mg base k y n f := by
  obtain ⟨ad, fd, ps, F, h1, h2, h3⟩ := G.ex
  exact ⟨ad, fd, ps, F.mono h, h1, h2, h3⟩
theorem look_mem {α : Type} {y : Str} {a : α} : ∀ {l : List (Str × α)}, l.lookup y = some a → (y, a) ∈ l
  | [], h => by cases h
  | (z, b) :: l, h => by
    rw [List.lookup_cons] at h
    split at h
    · next e =>
      cases h
      have := beq_iff_eq.mp e
      subst this
      exact List.mem_cons_self ..
    · exact List.mem_cons_of_mem _ (look_mem h)
theorem tab_ok {P : Program} {w : World} {K : PySem.W.Frag} {mg : Str → Option Value} {base : Heap} {k n : Nat} {tab : List (Str × Fn)} (h : ∀ p ∈ tab, FnG P w K mg base k p.1 n p.2) (y : Str) (f : Fn) (hl : tab.lookup y = some f) : FnG P w K mg base k y n f := h _ (look_mem hl)
theorem tabs_ok {α : Type} {Q : Str → α → Prop} {tab : List (Str × α)} (h : ∀ p ∈ tab, Q p.1 p.2) (y : Str) (a : α) (hl : tab.lookup y = some a) : Q y a := h _ (look_mem hl)
end Dn

namespace Dn
open PySem PyProof.Rows L2 Evl
/-! ### how the plain functions reckon -/
section
variable {M : Mem} {i j : Int} {s t : Str} {xs ys ds : List D} {n : Nat} {η : Dv} {d e : D}
theorem ix_nat {α : Type} {l : List α} {k : Nat} : atI l (k : Int) = l[k]? := by
  unfold atI ixN
  by_cases h : k < l.length
  · rw [if_pos (by omega), if_pos (by omega)]
    simp
  · rw [if_pos (by omega), if_neg (by omega)]
    simp at h
    simp [h]
theorem ix_lit {α : Type} {l : List α} {k : Nat} : atI l (OfNat.ofNat k : Int) = l[k]? := ix_nat
theorem ix_0 {α : Type} {l : List α} : atI l (0 : Int) = l[0]? := ix_nat (k := 0)
theorem ix_1 {α : Type} {l : List α} : atI l (1 : Int) = l[1]? := ix_nat (k := 1)
theorem ix_2 {α : Type} {l : List α} : atI l (2 : Int) = l[2]? := ix_nat (k := 2)
theorem ix_3 {α : Type} {l : List α} : atI l (3 : Int) = l[3]? := ix_nat (k := 3)
theorem ix_4 {α : Type} {l : List α} : atI l (4 : Int) = l[4]? := ix_nat (k := 4)
theorem ix_in {α : Type} {l : List α} {i : Int} (h0 : 0 ≤ i) (h1 : i < l.length) : ∃ a, atI l i = some a ∧ a ∈ l := by
  obtain ⟨k, rfl⟩ := Int.eq_ofNat_of_zero_le h0
  rw [ix_nat]
  have hk : k < l.length := by omega
  exact ⟨l[k], List.getElem?_eq_getElem hk, List.getElem_mem hk⟩
theorem ixN_nat {l k : Nat} (h : k < l) : ixN l (k : Int) = some k := by
  unfold ixN
  rw [if_pos (by omega), if_pos (by omega)]
  simp
theorem add_ii : dAdd M (.int i) (.int j) = some (.int (i + j)) := rfl
theorem add_ss (h : s.length + t.length ≤ sizeLine) : dAdd M (.str s) (.str t) = some (.str (s ++ t)) := by
  simp [dAdd, oOr, oI0, asI, sAdd, oS2, asS, h]
theorem add_tt (h : xs.length + ys.length ≤ sizeLine) : dAdd M (.tup xs) (.tup ys) = some (.tup (xs ++ ys)) := by
  simp [dAdd, oOr, oI0, asI, sAdd, oS2, asS, tAdd', asT, h]
theorem add_ll (h : xs.length + ys.length ≤ sizeLine) : dAdd M (.lst xs) (.lst ys) = some (.lst (xs ++ ys)) := by
  simp [dAdd, oOr, oI0, asI, sAdd, oS2, asS, tAdd', asT, lAdd, asP, h]
theorem sub_ii : dSub M (.int i) (.int j) = some (.int (i - j)) := rfl
theorem mul_l (h0 : -(2 ^ 64) < i) (h1 : i < 2 ^ 64) : dMul M (.int i) (.int j) = some (.int (i * j)) := by
  have : CMul i j := .inl ⟨h0, h1⟩
  simp [dMul, oI, asI, this]
theorem mul_r (h0 : -(2 ^ 64) < j) (h1 : j < 2 ^ 64) : dMul M (.int i) (.int j) = some (.int (i * j)) := by
  have : CMul i j := .inr ⟨h0, h1⟩
  simp [dMul, oI, asI, this]
theorem mod_ii (h : 0 < j) : dMod M (.int i) (.int j) = some (.int (i % j)) := by simp [dMod, oI, asI, h]
theorem div_ii (h : 0 < j) (h1 : j < 1073741824) : dDiv M (.int i) (.int j) = some (.int (i / j)) := by
  have : CDiv i j := ⟨h, h1⟩
  simp [dDiv, oI, asI, this]
theorem pow_ii (h : CPw i j) : dPow M (.int i) (.int j) = some (.int (i ^ j.toNat)) := by simp [dPow, oI, asI, h]
theorem lt_ii : dLt M (.int i) (.int j) = some (.bl (decide (i < j))) := rfl
theorem lt_ss : dLt M (.str s) (.str t) = some (.bl (decide (s.cps.toList < t.cps.toList))) := rfl
theorem le_ii : dLe M (.int i) (.int j) = some (.bl (decide (i ≤ j))) := rfl
theorem gt_ii : dGt M (.int i) (.int j) = some (.bl (decide (j < i))) := rfl
theorem ge_ii : dGe M (.int i) (.int j) = some (.bl (decide (j ≤ i))) := rfl
theorem ix_l : dIx M (.lst xs) (.int i) = atI xs i := by
  simp only [dIx, oOr, lIx, tIx, sIx, asL, asI, asT, asS, Option.bind_some, Option.bind_none]
  split <;> simp_all
theorem ix_t : dIx M (.tup xs) (.int i) = atI xs i := by
  simp only [dIx, oOr, lIx, tIx, sIx, asL, asI, asT, asS, Option.bind_some, Option.bind_none]
  split <;> simp_all
theorem ix_p (h : M[n]? = some (.lst xs)) : dIx M (.ptr n) (.int i) = atI xs i := by
  simp only [dIx, oOr, lIx, tIx, sIx, asL, asI, asT, asS, Option.bind_some, Option.bind_none, h]
  split <;> simp_all
theorem ix_sc {ns : List Int} : dIx M (.scr ns) (.int i) = (atI ns i).map D.int := by
  have : atI (ns.map D.int) i = (atI ns i).map D.int := by
    unfold atI
    rw [List.length_map]
    cases ixN ns.length i with
    | none => rfl
    | some j => simp
  simp only [dIx, oOr, lIx, tIx, sIx, asL, asI, asT, asS, Option.bind_some, Option.bind_none, this]
  cases atI ns i <;> rfl
theorem ix_s (h : s.length ≤ sizeLine) : dIx M (.str s) (.int i) = (atI s.cps.toList i).map fun c => .str ⟨#[c]⟩ := by
  simp [dIx, oOr, lIx, tIx, sIx, asL, asI, asT, asS, h]
theorem sl_s {lo hi : Option Int} (h : s.length ≤ sizeLine) : dSl M (.str s) lo hi = some (.str (cutS s lo hi)) := by
  simp [dSl, sOr, lSl, tSl', sSl, asL, asT, asS, h]
theorem sl_t {lo hi : Option Int} : dSl M (.tup xs) lo hi = some (.tup (cutD xs lo hi)) := by
  simp [dSl, sOr, lSl, tSl', sSl, asL, asT, asS]
theorem sl_l {lo hi : Option Int} : dSl M (.lst xs) lo hi = some (.lst (cutD xs lo hi)) := by
  simp [dSl, sOr, lSl, tSl', sSl, asL, asT, asS]
theorem len_l : lenD M (.lst xs) = some xs.length := rfl
theorem len_t : lenD M (.tup xs) = some xs.length := rfl
theorem len_sc {ns : List Int} : lenD M (.scr ns) = some ns.length := by simp [lenD, asL]
theorem len_s (h : s.length ≤ sizeLine) : lenD M (.str s) = some s.length := by simp [lenD, asL, asT, asS, h]
theorem rev_l : revD M (.lst xs) = some (.lst xs.reverse) := rfl
theorem rev_t : revD M (.tup xs) = some (.tup xs.reverse) := rfl
theorem rev_s (h : s.length ≤ sizeLine) : revD M (.str s) = some (.str (revS s)) := by simp [revD, asL, asT, asS, h]
theorem tru_b {b : Bool} : truD M (.bl b) = some b := rfl
theorem blen_l : bLen M [.lst xs] = some (.int xs.length) := rfl
theorem blen_t : bLen M [.tup xs] = some (.int xs.length) := rfl
theorem blen_sc {ns : List Int} : bLen M [.scr ns] = some (.int ns.length) := by simp [bLen, one, len_sc]
theorem blen_s (h : s.length ≤ sizeLine) : bLen M [.str s] = some (.int s.length) := by simp [bLen, one, len_s h]
theorem babs : bAbs M [.int i] = some (.int (if i < 0 then -i else i)) := rfl
theorem bint_b {b : Bool} : bInt M [.bl b] = some (.int (if b then 1 else 0)) := rfl
theorem bmax : bMax M [.int i, .int j] = some (.int (if j > i then j else i)) := rfl
theorem bmin : bMin M [.int i, .int j] = some (.int (if j < i then j else i)) := rfl
theorem blist_t : bList M [.tup xs] = some (.lst xs) := rfl
theorem blist_l : bList M [.lst xs] = some (.lst xs) := rfl
theorem btuple_l : bTuple M [.lst xs] = some (.tup xs) := rfl
theorem btuple_t : bTuple M [.tup xs] = some (.tup xs) := rfl
theorem srt_perm (l : List Str) : (srt l).Perm l := List.mergeSort_perm l leS
theorem bsorted {ss : List Str} (h : ss.length < 64) : bSorted M [.lst (ss.map D.str)] = some (.lst ((srt ss).map D.str)) := by
  have : ∀ ss : List Str, asSs (ss.map D.str) = some ss := by
    intro ss
    induction ss with
    | nil => rfl
    | cons a l ih => simp [asSs, asS, ih]
  simp [bSorted, one, asL, this, h]
theorem line_big : 1000000 ≤ sizeLine := by decide
theorem small_line {n : Nat} (h : n ≤ 100000) : n ≤ sizeLine := Nat.le_trans h (by decide)
end
theorem asSs_map : ∀ ss : List Str, asSs (ss.map D.str) = some ss
  | [] => rfl
  | a :: l => by simp [asSs, asS, asSs_map l]
/-- it comes to something of which P holds -/
def Gv {α : Type} (r : R α) (P : α → Mem → Prop) : Prop := ∃ a M', r = .ok a M' ∧ P a M'
theorem gv_ok {α : Type} {a : α} {M : Mem} {P : α → Mem → Prop} (h : P a M) : Gv (.ok a M) P := ⟨a, M, rfl, h⟩
theorem gv_bind {α β : Type} {r : R α} {k : α → Mem → R β} {P : β → Mem → Prop} (h : Gv r fun a M => Gv (k a M) P) : Gv (r.bind k) P := by
  obtain ⟨a, M, e, h⟩ := h
  rw [e]
  exact h
theorem Gv.imp {α : Type} {r : R α} {P Q : α → Mem → Prop} (h : Gv r P) (i : ∀ a M, P a M → Q a M) : Gv r Q := let ⟨a, M, e, p⟩ := h; ⟨a, M, e, i a M p⟩
theorem gv_of {α : Type} {o : Option α} {M : Mem} {P : α → Mem → Prop} {a : α} (e : o = some a) (h : P a M) : Gv (R.of o M) P := by
  rw [e]
  exact gv_ok h
/-! one rule a word -/
section
variable {M : Mem} {η : Dv} {P : D → Mem → Prop} {PF : Fl → Mem → Prop} {PA : List D → Mem → Prop} {PB : Bool → Mem → Prop} {f g k : XE} {fa ga : XA} {p q : XT} {s u : XS} {i j : Nat} {d : D}
theorem v_var (h : η[i]? = some (some d)) (hp : P d M) : Gv (xVar i η M) P := by
  unfold xVar
  rw [h]
  exact gv_ok hp
theorem v_c (hp : P d M) : Gv (xC d η M) P := gv_ok hp
theorem v_op {h : Op2} (hp : Gv (f η M) fun x M1 => Gv (g η M1) fun y M2 => ∃ z, h M2 x y = some z ∧ P z M2) : Gv (xOp h f g η M) P :=
  gv_bind (hp.imp fun x M1 h1 => gv_bind (h1.imp fun y M2 ⟨z, e, h2⟩ => gv_of e h2))
theorem v_nil (h : PA [] M) : Gv (xNil η M) PA := gv_ok h
theorem v_cons (h : Gv (f η M) fun x M1 => Gv (fa η M1) fun xs M2 => PA (x :: xs) M2) : Gv (xCons f fa η M) PA :=
  gv_bind (h.imp fun x M1 h1 => gv_bind (h1.imp fun y M2 h2 => gv_ok h2))
theorem v_call {h : OpC} (hp : Gv (fa η M) fun ds M1 => ∃ z, h M1 ds = some z ∧ P z M1) : Gv (xCall h fa η M) P := gv_bind (hp.imp fun ds M1 ⟨z, e, h2⟩ => gv_of e h2)
theorem v_fn {n : Nat} {fn : Fn} (hp : Gv (fa η M) fun ds M1 => ds.length = n ∧ Gv (fn ds M1) P) : Gv (xFn n fn fa η M) P := gv_bind (hp.imp fun ds M1 ⟨e, h2⟩ => by
  rw [if_pos e]
  exact h2)
theorem v_fnK {n kk : Nat} {fn : Fn} {fk : XA} (hp : Gv (fa η M) fun ds M1 => Gv (fk η M1) fun cs M2 => (ds.length = n ∧ cs.length = kk) ∧ Gv (fn (ds ++ cs) M2) P) : Gv (xFnK' n kk fn fa fk η M) P := gv_bind (hp.imp fun ds M1 h1 => gv_bind (h1.imp fun cs M2 ⟨e, h2⟩ => by
  rw [if_pos e]
  exact h2))
theorem v_tup (hp : Gv (fa η M) fun ds M1 => ds.length ≤ 100000 ∧ P (.tup ds) M1) : Gv (xTup fa η M) P := gv_bind (hp.imp fun ds M1 ⟨e, h2⟩ => by
  rw [if_pos e]
  exact gv_ok h2)
theorem v_lst (hp : Gv (fa η M) fun ds M1 => ds.length ≤ 100000 ∧ P (.lst ds) M1) : Gv (xLst fa η M) P := gv_bind (hp.imp fun ds M1 ⟨e, h2⟩ => by
  rw [if_pos e]
  exact gv_ok h2)
theorem v_lstM (hp : Gv (fa η M) fun ds M1 => ds.length ≤ 100000 ∧ P (.ptr M1.length) (M1 ++ [.lst ds])) : Gv (xLstM fa η M) P := gv_bind (hp.imp fun ds M1 ⟨e, h2⟩ => by
  rw [if_pos e]
  exact gv_ok h2)
theorem v_neg (hp : Gv (f η M) fun x M1 => ∃ i, x = .int i ∧ P (.int (-i)) M1) : Gv (xNeg f η M) P := gv_bind (hp.imp fun x M1 ⟨i, e, h2⟩ => by
  subst e
  exact gv_ok h2)
theorem v_rev (hp : Gv (f η M) fun x M1 => ∃ z, revD M1 x = some z ∧ P z M1) : Gv (xRev f η M) P := gv_bind (hp.imp fun x M1 ⟨z, e, h2⟩ => gv_of e h2)
theorem v_none {PO : Option Int → Mem → Prop} (h : PO none M) : Gv (xNone η M) PO := gv_ok h
theorem v_some {PO : Option Int → Mem → Prop} (hp : Gv (f η M) fun x M1 => ∃ i, x = .int i ∧ PO (some i) M1) : Gv (xSome f η M) PO := gv_bind (hp.imp fun x M1 ⟨i, e, h2⟩ => by
  subst e
  exact gv_ok h2)
theorem v_sl {h : OpS} {l r : XO} (hp : Gv (f η M) fun x M1 => Gv (l η M1) fun lo M2 => Gv (r η M2) fun hi M3 => ∃ z, h M3 x lo hi = some z ∧ P z M3) : Gv (xSl h f l r η M) P :=
  gv_bind (hp.imp fun x M1 h1 => gv_bind (h1.imp fun lo M2 h2 => gv_bind (h2.imp fun hi M3 ⟨z, e, h3⟩ => gv_of e h3)))
theorem v_tst (hp : Gv (f η M) fun x M1 => ∃ b, x = .bl b ∧ PB b M1) : Gv (xTst f η M) PB := gv_bind (hp.imp fun x M1 ⟨b, e, h2⟩ => by
  subst e
  exact gv_ok h2)
theorem v_tru (hp : Gv (f η M) fun x M1 => ∃ b, truD M1 x = some b ∧ PB b M1) : Gv (xTru f η M) PB := gv_bind (hp.imp fun x M1 ⟨b, e, h2⟩ => gv_of e h2)
theorem v_and (hp : Gv (p η M) fun b M1 => if b = true then Gv (q η M1) PB else PB false M1) : Gv (xAnd p q η M) PB := gv_bind (hp.imp fun b M1 h => by
  cases b with
  | true => exact h
  | false => exact gv_ok h)
theorem v_or (hp : Gv (p η M) fun b M1 => if b = true then PB true M1 else Gv (q η M1) PB) : Gv (xOr p q η M) PB := gv_bind (hp.imp fun b M1 h => by
  cases b with
  | true => exact gv_ok h
  | false => exact h)
theorem v_not (hp : Gv (p η M) fun b M1 => PB (!b) M1) : Gv (xNot p η M) PB := gv_bind (hp.imp fun b M1 h => gv_ok h)
theorem v_andV (hp : Gv (f η M) fun x M1 => ∃ b, x = .bl b ∧ if b = true then Gv (g η M1) P else P (.bl false) M1) : Gv (xAndV f g η M) P := gv_bind (hp.imp fun x M1 ⟨b, e, h⟩ => by
  subst e
  cases b with
  | true => exact h
  | false => exact gv_ok h)
theorem v_if (hp : Gv (p η M) fun b M1 => if b = true then Gv (f η M1) P else Gv (g η M1) P) : Gv (xIf p f g η M) P := gv_bind (hp.imp fun b M1 h => by
  cases b with
  | true => exact h
  | false => exact h)
theorem v_chain {h h' : Op2} (hp : Gv (f η M) fun x M1 => Gv (g η M1) fun y M2 => ∃ b, h M2 x y = some (.bl b) ∧ if b = true then Gv (k η M2) fun z M3 => ∃ w, h' M3 y z = some w ∧ P w M3 else P (.bl false) M2) : Gv (xChain h h' f g k η M) P :=
  gv_bind (hp.imp fun x M1 h1 => gv_bind (h1.imp fun y M2 ⟨b, e, h2⟩ => by
    rw [e]
    show Gv (if b = true then _ else _) P
    cases b with
    | true => exact gv_bind (Gv.imp h2 fun z M3 ⟨w, e3, h3⟩ => gv_of e3 h3)
    | false => exact gv_ok h2))
theorem v_join (hp : Gv (f η M) fun x M1 => ∃ z, x = .str z ∧ Gv (g η M1) fun y M2 => ∃ ss : List Str, y = .lst (ss.map D.str) ∧ (ss.map fun (q : Str) => q.length).sum + ss.length * z.length ≤ 16777216 ∧ P (.str (Txt.join z ss)) M2) : Gv (xJoin f g η M) P :=
  gv_bind (hp.imp fun x M1 ⟨z, e, h1⟩ => by
    subst e
    refine gv_bind (gv_ok (gv_bind (h1.imp fun y M2 ⟨ss, e2, h2, h3⟩ => ?_)))
    subst e2
    exact gv_of (by simp only [asL, Option.bind_some, asSs_map, if_pos h2]) h3)
theorem v_upper (hp : Gv (f η M) fun x M1 => ∃ z : Str, x = .str z ∧ z.length ≤ 5592405 ∧ P (.str (Txt.upper z)) M1) : Gv (xUpper f η M) P := gv_bind (hp.imp fun x M1 ⟨z, e, h, h2⟩ => by
  subst e
  refine gv_bind (gv_ok ?_)
  rw [if_pos h]
  exact gv_ok h2)
theorem v_dict0 (hp : P (.dct []) M) : Gv (xDict0 η M) P := gv_ok hp
theorem v_dict1 (hp : Gv (f η M) fun x M1 => Gv (g η M1) fun y M2 => ∃ k, keyD x = some k ∧ P (.dct [(k, y)]) M2) : Gv (xDict1 f g η M) P := gv_bind (hp.imp fun x M1 h1 => gv_bind (h1.imp fun y M2 ⟨k, e, h2⟩ => gv_of (by rw [e]; rfl) h2))
/-! statements -/
theorem v_seq (h : Gv (s η M) fun fl M1 => Gv (thenS u fl M1) PF) : Gv (xSeq s u η M) PF := gv_bind h
theorem v_nx (h : PF (.nx η) M) : Gv (xNx η M) PF := gv_ok h
theorem v_thn {η' : Dv} (h : Gv (u η' M) PF) : Gv (thenS u (.nx η') M) PF := h
theorem v_thr (h : PF (.rt d) M) : Gv (thenS u (.rt d) M) PF := gv_ok h
theorem v_asg (h : Gv (f η M) fun d M1 => PF (.nx (η.set i (some d))) M1) : Gv (xAsg f (xgName i) η M) PF := gv_bind (h.imp fun d M1 h1 => gv_bind (gv_ok (gv_ok h1)))
theorem v_ret (h : Gv (f η M) fun d M1 => PF (.rt d) M1) : Gv (xRet f η M) PF := gv_bind (h.imp fun d M1 h1 => gv_ok h1)
theorem v_ifS (h : Gv (p η M) fun b M1 => if b = true then Gv (s η M1) PF else Gv (u η M1) PF) : Gv (xIfS p s u η M) PF := gv_bind (h.imp fun b M1 h => by
  cases b with
  | true => exact h
  | false => exact h)
theorem v_par (h : Gv (f η M) fun d M1 => Gv (g η M1) fun c M2 => PF (.nx ((η.set i (some d)).set j (some c))) M2) : Gv (xPar i j f g η M) PF := gv_bind (h.imp fun d M1 h1 => gv_bind (h1.imp fun c M2 h2 => gv_ok h2))
theorem v_setL (h : Gv (f η M) fun d M1 => Gv (g η M1) fun l M2 => Gv (k η M2) fun z M3 => ∃ n ds j q, l = .ptr n ∧ z = .int j ∧ M3[n]? = some (.lst ds) ∧ ixN ds.length j = some q ∧ PF (.nx η) (M3.set n (.lst (ds.set q d)))) : Gv (xSetL f g k η M) PF :=
  gv_bind (h.imp fun d M1 h1 => gv_bind (h1.imp fun l M2 h2 => gv_bind (h2.imp fun z M3 ⟨n, ds, j, q, e1, e2, e3, e4, h3⟩ => by
    subst e1 e2
    simp only [e3, e4]
    exact gv_ok h3)))
theorem v_for {fi : XI} {gt : XG} {PI : List D → Mem → Prop} (h : Gv (fi η M) fun ds M1 => Gv (xForL gt s ds η M1) PF) : Gv (xFor fi gt s η M) PF := gv_bind h
theorem v_rng (h : Gv (fa η M) fun ds M1 => ∃ n : Nat, ds = [.int (n : Int)] ∧ n < 2 ^ 62 ∧ PA ((List.range n).map fun i => .int (i : Nat)) M1) : Gv (xRng fa η M) PA := gv_bind (h.imp fun ds M1 ⟨n, e, hn, h1⟩ => by
  subst e
  show Gv (if _ then _ else _) PA
  rw [if_pos ⟨by omega, by omega⟩]
  exact gv_ok (by simpa using h1))
theorem v_sq (h : Gv (f η M) fun x M1 => ∃ ds, itemsD x = some ds ∧ PA ds M1) : Gv (xSq f η M) PA := gv_bind (h.imp fun x M1 ⟨ds, e, h1⟩ => gv_of e h1)
theorem v_zipT (h : Gv (fa η M) fun ds M1 => ∃ xs ys, ds = [.tup xs, .tup ys] ∧ PA (xs.zip ys |>.map fun q => .tup [q.1, q.2]) M1) : Gv (xZip fa η M) PA := gv_bind (h.imp fun ds M1 ⟨xs, ys, e, h1⟩ => by
  subst e
  exact gv_ok h1)
/-- a for by a word about what is left, the slots and the memory -/
theorem v_forL {gt : XG} (I : List D → Dv → Mem → Prop) (ds : List D) (h0 : I ds η M) (hs : ∀ d r η M, I (d :: r) η M → Gv (gt d η M) fun η1 M1 => Gv (s η1 M1) fun fl M2 => match fl with
    | .nx η2 => I r η2 M2
    | .ct η2 => I r η2 M2
    | .bk η2 => PF (.nx η2) M2
    | .rt v => PF (.rt v) M2) (hd : ∀ η M, I [] η M → PF (.nx η) M) : Gv (xForL gt s ds η M) PF := by
  induction ds generalizing η M with
  | nil => exact gv_ok (hd _ _ h0)
  | cons d r ih =>
    refine gv_bind ((hs d r η M h0).imp fun η1 M1 h1 => gv_bind (Gv.imp h1 fun fl M2 h2 => ?_))
    cases fl with
    | nx η2 => exact ih h2
    | ct η2 => exact ih h2
    | bk η2 => exact gv_ok h2
    | rt v => exact gv_ok h2
theorem calm_gv {α : Type} {r : R α} {P : α → Mem → Prop} (h : Gv r P) : Gv r.calm P := by
  obtain ⟨a, M, e, h⟩ := h
  rw [e]
  exact gv_ok h
/-- a comprehension by a word about what is left, what is made, the memory -/
theorem v_lcL {gt : XG} {t : XT} (I : List D → List D → Mem → Prop) (ds : List D) (hs : ∀ d r acc M, I (d :: r) acc M → Gv (gt d η M) fun η1 M1 => Gv (t η1 M1) fun b M2 => if b = true then Gv (f η1 M2) fun y M3 => I r (acc ++ [y]) M3 else I r acc M2)
    : ∀ acc, (h0 : I ds acc M) → Gv (xLcL gt t f ds η M) fun r M1 => I [] (acc ++ r) M1 := by
  induction ds generalizing M with
  | nil => intro acc h0; exact gv_ok (by simpa using h0)
  | cons d r ih =>
    intro acc h0
    unfold xLcL
    refine gv_bind (calm_gv ((hs d r acc M h0).imp fun η1 M1 h1 => gv_bind (calm_gv (Gv.imp h1 fun b M2 h2 => ?_))))
    cases b with
    | true =>
      simp only [if_true] at h2 ⊢
      refine gv_bind (calm_gv (Gv.imp h2 fun y M3 h3 => gv_bind ((ih _ h3).imp fun q M4 h4 => gv_ok ?_)))
      rw [List.append_assoc] at h4
      exact h4
    | false =>
      simp only [Bool.false_eq_true, if_false] at h2 ⊢
      exact ih _ h2
theorem v_lc {fi : XI} {gt : XG} {t : XT} {vs : List Nat} (h : Gv (fi η M) fun ds M1 => ds.length ≤ 100000 ∧ Gv (xLcL gt t f ds (wipeD η vs) M1) fun r M2 => P (.lst r) M2) : Gv (xLc frozenL fi gt t f vs η M) P := gv_bind (h.imp fun ds M1 ⟨e, h1⟩ => by
  rw [if_pos e]
  exact gv_bind (h1.imp fun r M2 h2 => gv_ok h2))
theorem v_gn {PD : Dv → Mem → Prop} (hp : PD (η.set i (some d)) M) : Gv (xgName i d η M) PD := gv_ok hp
theorem v_yes (h : PB true M) : Gv (xYes η M) PB := gv_ok h
/-- a def: its body -/
theorem v_body {n N : Nat} {b : XS} {ds : List D} (hl : ds.length = n) (h : Gv (b (ds.map some ++ List.replicate (N - n) none) M) fun fl M1 => match fl with
    | .rt d => P d M1
    | .nx _ => P .non M1
    | _ => False) : Gv (callB n N b ds M) P := by
  unfold callB
  rw [if_pos hl]
  refine gv_bind (h.imp fun fl M1 h1 => ?_)
  cases fl with
  | rt d => exact gv_ok h1
  | nx η' => exact gv_ok h1
  | bk _ => exact h1.elim
  | ct _ => exact h1.elim
end
end Dn
namespace Dn
open PySem PyProof.Rows L2 Evl
theorem v_lc_map {gt : XG} {t : XT} {f : XE} {η : Dv} {M : Mem} (h : D → D) : ∀ (ds : List D), (∀ d ∈ ds, Gv (gt d η M) fun η1 M1 => Gv (t η1 M1) fun b M2 => b = true ∧ Gv (f η1 M2) fun y M3 => y = h d ∧ M3 = M) → Gv (xLcL gt t f ds η M) fun r M1 => r = ds.map h ∧ M1 = M
  | [], _ => gv_ok ⟨rfl, rfl⟩
  | d :: ds, hs => by
    unfold xLcL
    refine gv_bind (calm_gv ((hs d (List.mem_cons_self ..)).imp fun η1 M1 h1 => gv_bind (calm_gv (Gv.imp h1 fun b M2 h2 => ?_))))
    obtain ⟨rfl, h2⟩ := h2
    rw [if_pos rfl]
    refine gv_bind (calm_gv (Gv.imp h2 fun y M3 ⟨e1, e2⟩ => ?_))
    subst e1 e2
    exact gv_bind ((v_lc_map h ds fun c hc => hs c (List.mem_cons_of_mem _ hc)).imp fun r M4 ⟨e3, e4⟩ => gv_ok ⟨by rw [e3]; rfl, e4⟩)
theorem asBs_map {α : Type} (p : α → Bool) : ∀ l : List α, asBs (l.map fun d => D.bl (p d)) = some (l.map p)
  | [] => rfl
  | a :: l => by simp [asBs, asB, asBs_map p l]
theorem ball_map {M : Mem} {α : Type} {p : α → Bool} {l : List α} : bAll M [.lst (l.map fun d => .bl (p d))] = some (.bl (l.all p)) := by
  have e : (l.map p).all id = l.all p := by
    induction l with
    | nil => rfl
    | cons a l ih => simp only [List.map_cons, List.all_cons, id, ih]
  simp only [bAll, one, asL, Option.bind_some, asBs_map, Option.map_some, e]
/-- the class of flat and plain things -/
theorem isi_str {M : Mem} {t : Str} : bIsi M [.str t, .raw (.ty "str")] = some (.bl true) := rfl
end Dn

namespace Dn
open PySem PyProof.Rows L2 Evl
section
variable {M : Mem} {η : Dv} {P : D → Mem → Prop} {PF : Fl → Mem → Prop} {PA : List D → Mem → Prop} {PB : Bool → Mem → Prop} {f g k : XE} {fa ga : XA} {p q : XT} {s u : XS} {i j : Nat} {d : D}
theorem v_rng2 (h : Gv (fa η M) fun ds M1 => ∃ lo hi : Nat, ds = [.int (lo : Int), .int (hi : Int)] ∧ lo < 2 ^ 62 ∧ hi < 2 ^ 62 ∧ PA ((List.range (hi - lo)).map fun q => .int ((lo : Int) + (q : Nat))) M1) : Gv (xRng2 fa η M) PA := gv_bind (h.imp fun ds M1 ⟨lo, hi, e, h1, h2, h3⟩ => by
  subst e
  show Gv (if _ then _ else _) PA
  rw [if_pos ⟨by omega, by omega, by omega, by omega⟩]
  have e : ((hi : Int) - (lo : Int)).toNat = hi - lo := by omega
  exact gv_ok (by rw [e]; exact h3))
theorem v_zipM (h : Gv (fa η M) fun ds M1 => ∃ xs ys, ds = [.tup xs, .lst ys] ∧ PA (xs.zip ys |>.map fun q => .tup [q.1, q.2]) M1) : Gv (xZipM fa η M) PA := gv_bind (h.imp fun ds M1 ⟨xs, ys, e, h1⟩ => by
  subst e
  exact gv_ok h1)
theorem v_drop (h : Gv (f η M) fun _ M1 => PF (.nx η) M1) : Gv (xDrop f η M) PF := gv_bind (h.imp fun d M1 h1 => gv_ok h1)
theorem v_append (h : Gv (f η M) fun d M1 => ∃ n ds0, d = .ptr n ∧ M1[n]? = some (.lst ds0) ∧ Gv (g η M1) fun x M2 => ∃ ds, M2[n]? = some (.lst ds) ∧ ds.length < 1000000 ∧ P .non (M2.set n (.lst (ds ++ [x])))) : Gv (xAppend f g η M) P :=
  gv_bind (h.imp fun d M1 ⟨n, ds0, e1, e2, h1⟩ => by
    subst e1
    simp only [e2]
    exact gv_bind (h1.imp fun x M2 ⟨ds, e3, hl, h2⟩ => by
      simp only [e3, if_pos hl]
      exact gv_ok h2))
theorem v_reverse (h : Gv (f η M) fun d M1 => ∃ n ds, d = .ptr n ∧ M1[n]? = some (.lst ds) ∧ P .non (M1.set n (.lst ds.reverse))) : Gv (xReverse f η M) P :=
  gv_bind (h.imp fun d M1 ⟨n, ds, e1, e2, h1⟩ => by
    subst e1
    simp only [e2]
    exact gv_ok h1)
theorem v_lcM {fi : XI} {gt : XG} {t : XT} {vs : List Nat} (h : Gv (fi η M) fun ds M1 => ds.length ≤ 100000 ∧ Gv (xLcL gt t f ds (wipeD η vs) M1) fun r M2 => P (.ptr M2.length) (M2 ++ [.lst r])) : Gv (xLc movingL fi gt t f vs η M) P := gv_bind (h.imp fun ds M1 ⟨e, h1⟩ => by
  rw [if_pos e]
  exact gv_bind (h1.imp fun r M2 h2 => gv_ok h2))
theorem v_lcP {fi : XE} {gt : XG} {t : XT} {vs : List Nat} (h : Gv (fi η M) fun d M1 => ∃ n ds, d = .ptr n ∧ M1[n]? = some (.lst ds) ∧ ds.length ≤ 100000 ∧ Gv (xLcLP (some n) ds gt t f ds (wipeD η vs) M1) fun r M2 => P (.lst r) M2) : Gv (xLcP frozenL (xPt fi) gt t f vs η M) P := gv_bind (gv_bind (h.imp fun d M1 ⟨n, ds, e1, e2, e3, h1⟩ => by
  subst e1
  simp only [e2]
  refine gv_ok ?_
  dsimp only
  rw [if_pos e3]
  exact gv_bind (h1.imp fun r M2 h2 => gv_ok h2)))
theorem v_lcP_map {gt : XG} {t : XT} {n : Nat} {ds0 : List D} (h : D → D) (ck : M[n]? = some (.lst ds0)) : ∀ (ds : List D), (∀ d ∈ ds, Gv (gt d η M) fun η1 M1 => Gv (t η1 M1) fun b M2 => b = true ∧ Gv (f η1 M2) fun y M3 => y = h d ∧ M3 = M) → Gv (xLcLP (some n) ds0 gt t f ds η M) fun r M1 => r = ds.map h ∧ M1 = M
  | [], _ => by
    unfold xLcLP
    rw [if_pos (show Ck (some n) ds0 M from ck)]
    exact gv_ok ⟨rfl, rfl⟩
  | d :: ds, hs => by
    unfold xLcLP
    rw [if_pos (show Ck (some n) ds0 M from ck)]
    refine gv_bind (calm_gv ((hs d (List.mem_cons_self ..)).imp fun η1 M1 h1 => gv_bind (calm_gv (Gv.imp h1 fun b M2 h2 => ?_))))
    obtain ⟨rfl, h2⟩ := h2
    rw [if_pos rfl]
    refine gv_bind (calm_gv (Gv.imp h2 fun y M3 ⟨e1, e2⟩ => ?_))
    rw [e1, e2]
    exact gv_bind ((v_lcP_map h ck ds fun c hc => hs c (List.mem_cons_of_mem _ hc)).imp fun r M4 ⟨e3, e4⟩ => gv_ok ⟨by rw [e3]; rfl, e4⟩)
theorem v_lc_fm {gt : XG} {t : XT} (p : D → Bool) (h : D → D) : ∀ (ds : List D), (∀ d ∈ ds, Gv (gt d η M) fun η1 M1 => Gv (t η1 M1) fun b M2 => b = p d ∧ M2 = M ∧ (p d = true → Gv (f η1 M2) fun y M3 => y = h d ∧ M3 = M)) → Gv (xLcL gt t f ds η M) fun r M1 => r = (ds.filter p).map h ∧ M1 = M
  | [], _ => gv_ok ⟨rfl, rfl⟩
  | d :: ds, hs => by
    unfold xLcL
    refine gv_bind (calm_gv ((hs d (List.mem_cons_self ..)).imp fun η1 M1 h1 => gv_bind (calm_gv (Gv.imp h1 fun b M2 h2 => ?_))))
    obtain ⟨e0, e1, h2⟩ := h2
    rw [e1] at h2 ⊢
    rw [e0]
    have ih := v_lc_fm p h ds fun c hc => hs c (List.mem_cons_of_mem _ hc)
    cases hp : p d with
    | true =>
      rw [if_pos rfl, List.filter_cons_of_pos hp]
      refine gv_bind (calm_gv (Gv.imp (h2 hp) fun y M3 ⟨e1, e2⟩ => ?_))
      rw [e1, e2]
      exact gv_bind (ih.imp fun r M4 ⟨e3, e4⟩ => gv_ok ⟨by rw [e3]; rfl, e4⟩)
    | false =>
      rw [if_neg (by decide), List.filter_cons_of_neg (by rw [hp]; decide)]
      exact ih
/-- the keys -/
theorem keys_map {fn : Fn} (h : D → D) : ∀ (ds : List D), (∀ d ∈ ds, Gv (fn [d] M) fun y M1 => y = h d ∧ M1 = M) → Gv (keysR fn ds M) fun r M1 => r = ds.map h ∧ M1 = M
  | [], _ => gv_ok ⟨rfl, rfl⟩
  | d :: ds, hs => by
    unfold keysR
    refine gv_bind ((hs d (List.mem_cons_self ..)).imp ?_)
    rintro y M3 ⟨e1, e2⟩
    rw [e1, e2]
    exact gv_bind ((keys_map h ds fun c hc => hs c (List.mem_cons_of_mem _ hc)).imp fun r M4 ⟨e3, e4⟩ => gv_ok ⟨by rw [e3]; rfl, e4⟩)
theorem v_sortKM {fn : Fn} (h : Gv (f η M) fun d M1 => ∃ es, asL M1 d = some es ∧ Gv (keysR fn es M1) fun ks M2 => ∃ r, sortK es ks = some r ∧ P (.ptr M2.length) (M2 ++ [.lst r])) : Gv (xSortK movingL fn f η M) P :=
  gv_bind (h.imp fun d M1 ⟨es, e1, h1⟩ => gv_bind (gv_of e1 (gv_bind (h1.imp fun ks M2 ⟨r, e2, h2⟩ => gv_bind (gv_of e2 (gv_ok h2))))))
theorem v_sortKF {fn : Fn} (h : Gv (f η M) fun d M1 => ∃ es, asL M1 d = some es ∧ Gv (keysR fn es M1) fun ks M2 => ∃ r, sortK es ks = some r ∧ P (.lst r) M2) : Gv (xSortK frozenL fn f η M) P :=
  gv_bind (h.imp fun d M1 ⟨es, e1, h1⟩ => gv_bind (gv_of e1 (gv_bind (h1.imp fun ks M2 ⟨r, e2, h2⟩ => gv_bind (gv_of e2 (gv_ok h2))))))
theorem v_orV (hp : Gv (f η M) fun x M1 => ∃ b, x = .bl b ∧ if b = true then P (.bl true) M1 else Gv (g η M1) P) : Gv (xOrV f g η M) P := gv_bind (hp.imp fun x M1 ⟨b, e, h⟩ => by
  subst e
  cases b with
  | true => exact gv_ok h
  | false => exact h)
end
/-! ### sets: all sublists by numbers -/
def ofN : List Str → Nat → List Str
  | [], _ => []
  | s :: r, m => if m % 2 = 1 then s :: ofN r (m / 2) else ofN r (m / 2)
theorem ofN_app (k : Str) : ∀ (ss : List Str) (m : Nat), ofN (ss ++ [k]) m = ofN ss m ++ (if m / 2 ^ ss.length % 2 = 1 then [k] else [])
  | [], m => by
    simp only [List.nil_append, ofN, List.length_nil, Nat.pow_zero, Nat.div_one]
  | s :: r, m => by
    have ih := ofN_app k r (m / 2)
    have e : m / 2 ^ (s :: r).length = m / 2 / 2 ^ r.length := by
      rw [Nat.div_div_eq_div_mul, List.length_cons, Nat.pow_succ, Nat.mul_comm]
    rw [List.cons_append, ofN, ih, e]
    simp only [ofN]
    split <;> rfl
theorem ofN_sub : ∀ (ss : List Str) (m : Nat), (ofN ss m).Sublist ss
  | [], _ => .slnil
  | s :: r, m => by
    unfold ofN
    split
    · exact (ofN_sub r _).cons₂ s
    · exact (ofN_sub r _).cons s
theorem sub_ofN : ∀ {ts ss : List Str}, ts.Sublist ss → ∃ m, m < 2 ^ ss.length ∧ ofN ss m = ts
  | _, _, .slnil => ⟨0, by simp, rfl⟩
  | _, _, .cons (l₂ := r) s h => by
    obtain ⟨m, h1, h2⟩ := sub_ofN h
    refine ⟨2 * m, by rw [List.length_cons, Nat.pow_succ]; omega, ?_⟩
    rw [ofN, if_neg (by omega), show 2 * m / 2 = m by omega, h2]
  | _, _, .cons₂ s h => by
    obtain ⟨m, h1, h2⟩ := sub_ofN h
    refine ⟨2 * m + 1, by rw [List.length_cons, Nat.pow_succ]; omega, ?_⟩
    rw [ofN, if_pos (by omega), show (2 * m + 1) / 2 = m by omega, h2]
theorem ofN_zero : ∀ (ss : List Str), ofN ss 0 = []
  | [] => rfl
  | s :: r => by rw [ofN, if_neg (by omega)]; exact ofN_zero r
theorem ofN_pos : ∀ (ss : List Str) (m : Nat), 0 < m → m < 2 ^ ss.length → ofN ss m ≠ []
  | [], m, h1, h2 => by simp at h2; omega
  | s :: r, m, h1, h2 => by
    unfold ofN
    rw [List.length_cons, Nat.pow_succ] at h2
    split
    · exact List.cons_ne_nil _ _
    · exact ofN_pos r (m / 2) (by omega) (by omega)
/-- in the order in which they are made -/
def subsN (ss : List Str) : List (List Str) := (List.range (2 ^ ss.length)).map (ofN ss)
theorem subsN_snoc (ss : List Str) (k : Str) : subsN (ss ++ [k]) = subsN ss ++ (subsN ss).map (· ++ [k]) := by
  unfold subsN
  rw [List.length_append, List.length_singleton, Nat.pow_succ, Nat.mul_two, List.range_add, List.map_append, List.map_map, List.map_map]
  congr 1
  · refine List.map_congr_left fun m hm => ?_
    have := List.mem_range.mp hm
    rw [ofN_app, Nat.div_eq_of_lt this]
    simp
  · refine List.map_congr_left fun m hm => ?_
    have := List.mem_range.mp hm
    have hp : 0 < 2 ^ ss.length := Nat.two_pow_pos _
    show ofN (ss ++ [k]) (2 ^ ss.length + m) = ofN ss m ++ [k]
    have e : (2 ^ ss.length + m) / 2 ^ ss.length = 1 := by
      rw [Nat.add_div_left _ hp, Nat.div_eq_of_lt this]
    rw [ofN_app, e, if_pos (by decide)]
    congr 1
    exact ofN_mod ss m
where
  ofN_mod : ∀ (ss : List Str) (m : Nat), ofN ss (2 ^ ss.length + m) = ofN ss m
    | [], _ => rfl
    | s :: r, m => by
      have e1 : (2 ^ (s :: r).length + m) % 2 = m % 2 := by rw [List.length_cons, Nat.pow_succ]; omega
      have e2 : (2 ^ (s :: r).length + m) / 2 = 2 ^ r.length + m / 2 := by rw [List.length_cons, Nat.pow_succ]; omega
      rw [ofN, ofN, e1, e2, ofN_mod r]
/-- the sets that are not empty, as made -/
def sets1 (ss : List Str) : List (List Str) := ((List.range (2 ^ ss.length - 1)).map fun m => ofN ss (m + 1))
theorem subs_filter (ss : List Str) : (subsN ss).filter (fun o => !o.isEmpty) = sets1 ss := by
  unfold subsN sets1
  have hp : 0 < 2 ^ ss.length := Nat.two_pow_pos _
  obtain ⟨n, hn⟩ : ∃ n, 2 ^ ss.length = n + 1 := ⟨2 ^ ss.length - 1, by omega⟩
  rw [hn, List.range_succ_eq_map, List.map_cons, ofN_zero, List.filter_cons_of_neg (by simp), List.map_map]
  rw [List.filter_eq_self.mpr]
  · rfl
  · intro o ho
    obtain ⟨m, hm, rfl⟩ := List.mem_map.mp ho
    have := List.mem_range.mp hm
    have h := ofN_pos ss (m + 1) (by omega) (by omega)
    simp only [Function.comp, Nat.succ_eq_add_one]
    cases q : ofN ss (m + 1) with
    | nil => exact absurd q h
    | cons _ _ => rfl
theorem mem_sets1 {ss ts : List Str} : ts ∈ sets1 ss ↔ ts ≠ [] ∧ ts.Sublist ss := by
  unfold sets1
  constructor
  · intro h
    obtain ⟨m, hm, rfl⟩ := List.mem_map.mp h
    have := List.mem_range.mp hm
    exact ⟨ofN_pos ss (m + 1) (by omega) (by omega), ofN_sub ss _⟩
  · rintro ⟨h1, h2⟩
    obtain ⟨m, hm, rfl⟩ := sub_ofN h2
    have h0 : m ≠ 0 := fun e => h1 (by rw [e, ofN_zero])
    exact List.mem_map.mpr ⟨m - 1, List.mem_range.mpr (by omega), by rw [show m - 1 + 1 = m by omega]⟩
/-! ### sorted by size, then as tuples go -/
open PySem.W (alike alikeAll dataLt dataLe)
def tupD (o : List Str) : D := .tup (o.map D.str)
def keyDD (o : List Str) : D := .tup [.int o.length, tupD o]
def tupP (o : List Str) : PyData := .tuple (o.map PyData.str)
def keyP (o : List Str) : PyData := .tuple [.int o.length, tupP o]
theorem toPs_strs : ∀ o : List Str, toPs (o.map D.str) = some (o.map PyData.str)
  | [] => by simp [toPs]
  | a :: l => by simp [toPs, toP, toPs_strs l]
theorem toP_tup (o : List Str) : toP (tupD o) = some (tupP o) := by simp [tupD, tupP, toP, toPs_strs]
theorem toP_key (o : List Str) : toP (keyDD o) = some (keyP o) := by simp [keyDD, keyP, toP, toPs, toP_tup]
theorem toPs_map {α : Type} {f : α → D} {g : α → PyData} (h : ∀ a, toP (f a) = some (g a)) : ∀ l : List α, toPs (l.map f) = some (l.map g)
  | [] => by simp [toPs]
  | a :: l => by simp [toPs, h, toPs_map h l]
theorem alike_strs : ∀ o u : List Str, alikeAll (o.map PyData.str) (u.map PyData.str) = true
  | [], _ => by rw [List.map_nil, alikeAll]
  | _ :: _, [] => by rw [List.map_nil, List.map_cons, alikeAll]
  | a :: o, b :: u => by rw [List.map_cons, List.map_cons, alikeAll, alike_strs o u, alike]; rfl
theorem alike_key (o u : List Str) : alike (keyP o) (keyP u) = true := by
  simp [keyP, tupP, alike, alikeAll, alike_strs]
theorem depth_strs : ∀ o : List Str, PyData.depthAll (o.map PyData.str) = 0
  | [] => by simp [PyData.depthAll]
  | a :: l => by simp [PyData.depthAll, PyData.depth, depth_strs l]
theorem depth_key (o : List Str) : (keyP o).depth ≤ 60 := by
  simp [keyP, tupP, PyData.depth, PyData.depthAll, depth_strs]
theorem sortOk_keys (l : List (List Str)) : sortOk (l.map keyP) = true := by
  unfold sortOk
  simp only [Bool.and_eq_true, Bool.or_eq_true, List.all_eq_true, decide_eq_true_eq]
  refine ⟨⟨fun a ha b hb => ?_, .inl fun a ha => ?_⟩, fun a ha => ?_⟩
  · obtain ⟨o, _, rfl⟩ := List.mem_map.mp ha
    obtain ⟨u, _, rfl⟩ := List.mem_map.mp hb
    exact alike_key o u
  · obtain ⟨o, _, rfl⟩ := List.mem_map.mp ha
    rfl
  · obtain ⟨o, _, rfl⟩ := List.mem_map.mp ha
    exact depth_key o
noncomputable def setSort (l : List (List Str)) : List (List Str) := l.mergeSort (dataLe false keyP)
theorem pD_key (o : List Str) : pD (keyDD o) = keyP o := by simp [pD, toP_key]
theorem dataLe_map {β γ : Type} {k : β → PyData} {k' : γ → PyData} {f : β → γ} (h : ∀ b, k' (f b) = k b) (a b : β) : dataLe false k a b = dataLe false k' (f a) (f b) := by
  show PySem.W.sortLe _ _ _ a b = PySem.W.sortLe _ _ _ (f a) (f b)
  simp only [PySem.W.sortLe, h]
theorem sortD_keys (l : List (List Str)) : sortD (l.map keyDD) = (setSort l).map keyDD := by
  unfold sortD setSort
  exact (List.map_mergeSort (fun a _ b _ => dataLe_map pD_key a b)).symm
theorem sortBy_sets (l : List (List Str)) : sortBy (l.map keyDD) (l.map tupD) = (setSort l).map tupD := by
  unfold sortBy setSort
  have e : (l.map tupD).zip (l.map keyDD) = l.map fun o => (tupD o, keyDD o) := by
    induction l with
    | nil => rfl
    | cons a l ih => simp [ih]
  rw [e, ← List.map_mergeSort (r := dataLe false keyP) (fun a _ b _ => dataLe_map (k' := fun p : D × D => pD p.2) (f := fun o => (tupD o, keyDD o)) pD_key a b), List.map_map]
  rfl
theorem sortK_sets (l : List (List Str)) : sortK (l.map tupD) (l.map keyDD) = some ((setSort l).map tupD) := by
  unfold sortK
  rw [if_pos (by simp), toPs_map toP_key]
  simp only [Option.bind_some, sortOk_keys, if_true, sortBy_sets]
theorem bsort_sets {M : Mem} {n : Nat} (l : List (List Str)) (h : M[n]? = some (.lst (l.map keyDD))) : bSortD M [.ptr n] = some (.lst ((setSort l).map keyDD)) := by
  simp only [bSortD, one, asL, h, Option.bind_some, toPs_map toP_key, sortOk_keys, if_true, sortD_keys]
theorem setSort_perm (l : List (List Str)) : (setSort l).Perm l := List.mergeSort_perm _ _
end Dn

namespace Dn
open PySem PyProof.Rows L2 Evl
section
variable {M : Mem} {η : Dv} {P : D → Mem → Prop} {PF : Fl → Mem → Prop} {PA : List D → Mem → Prop} {PB : Bool → Mem → Prop} {f g k fo : XE} {fa ga : XA} {p q : XT} {s u : XS} {i j : Nat} {d : D} {x fl m : Str} {fls : List Str}
theorem frz_p {z : Nat} {ds : List D} (h : M[z]? = some (.lst ds)) : frz M (.ptr z) = some (.lst ds, M.set z .gone) := by simp only [frz, h]
theorem frz_pT {z : Nat} {ds : List (List L2.Key × D)} (h : M[z]? = some (.dT ds)) : frz M (.ptr z) = some (.dcT ds, M.set z .gone) := by simp only [frz, h]
theorem frz_pK {z : Nat} {ds : List (L2.Key × D)} (h : M[z]? = some (.dK ds)) : frz M (.ptr z) = some (.dct ds, M.set z .gone) := by simp only [frz, h]
theorem frz_pI {z : Nat} {y : Str} {fs : List (Str × D)} (h : M[z]? = some (.ins y fs)) : frz M (.ptr z) = some (.ins y fs, M.set z .gone) := by simp only [frz, h]
theorem v_fz (hp : Gv (f η M) fun d M1 => ∃ r, frz M1 d = some r ∧ P r.1 r.2) : Gv (xFz f η M) P := gv_bind (hp.imp fun d M1 ⟨r, e, h⟩ => by
  obtain ⟨r1, r2⟩ := r
  simp only [e]
  exact gv_ok h)
theorem v_fld (hp : Gv (f η M) fun d M1 => ∃ fs v, asIns M1 d = some (x, fs) ∧ fs.lookup fl = some v ∧ P v M1) : Gv (xFld x fl f η M) P := gv_bind (hp.imp fun d M1 ⟨fs, v, e, e2, h⟩ => by
  simp only [e, if_true]
  exact gv_of e2 h)
theorem v_setF (hp : Gv (g η M) fun d M1 => Gv (f η M1) fun y M2 => ∃ n fs, y = .ptr n ∧ M2[n]? = some (.ins x fs) ∧ fs.length < 1000 ∧ PF (.nx η) (M2.set n (.ins x (putFD fl d fs)))) : Gv (xSetF x fl g f η M) PF :=
  gv_bind (hp.imp fun d M1 h1 => gv_bind (h1.imp fun y M2 ⟨n, fs, e1, e2, e3, h2⟩ => by
    subst e1
    simp only [e2]
    rw [if_pos ⟨trivial, e3⟩]
    exact gv_ok h2))
theorem v_meth {n : Nat} {fn : Fn} (hp : Gv (fo η M) fun d M1 => ∃ fs, asIns M1 d = some (x, fs) ∧ fs.lookup m = none ∧ Gv (fa η M1) fun ds M2 => ds.length + 1 = n ∧ Gv (fn (d :: ds) M2) P) : Gv (xMeth x m n fn fo fa η M) P :=
  gv_bind (hp.imp fun d M1 ⟨fs, e1, e2, h1⟩ => by
    simp only [e1]
    rw [if_pos ⟨trivial, e2⟩]
    exact gv_bind (h1.imp fun ds M2 ⟨e3, h2⟩ => by
      rw [if_pos e3]
      exact h2))
theorem v_make {n : Nat} {dfl : List D} {fn : Fn} (hp : Gv (fa η M) fun ds M1 => ds.length = n ∧ Gv (fn (.ptr M1.length :: (ds ++ dfl)) (M1 ++ [.ins x []])) fun r M2 => r = .non ∧ P (.ptr M1.length) M2) : Gv (xMake x n dfl fn fa η M) P :=
  gv_bind (hp.imp fun ds M1 ⟨e, h⟩ => by
    rw [if_pos e]
    exact gv_bind (h.imp fun r M2 ⟨e2, h2⟩ => by
      subst e2
      exact gv_ok h2))
theorem v_fzI (hp : Gv (f η M) fun d M1 => ∃ n M2 r, d = .ptr n ∧ frzFs n fls M1 = some M2 ∧ frz M2 (.ptr n) = some r ∧ P r.1 r.2) : Gv (xFzI fls f η M) P := gv_bind (hp.imp fun d M1 ⟨n, M2, r, e1, e2, e3, h⟩ => by
  subst e1
  obtain ⟨r1, r2⟩ := r
  simp only [e2, e3]
  exact gv_ok h)
theorem v_its (hp : Gv (f η M) fun d M1 => ∃ ds, itsD d = some ds ∧ PA ds M1) : Gv (xIts f η M) PA := gv_bind (hp.imp fun d M1 ⟨ds, e, h⟩ => gv_of e h)
theorem v_dictP (hp : Gv (fa η M) fun ds M1 => ∃ d es kds, ds = [d] ∧ asL M1 d = some es ∧ pairsT es = some kds ∧ P (.ptr M1.length) (M1 ++ [.dT (mergeD [] kds)])) : Gv (xDictP fa η M) P := gv_bind (hp.imp fun ds M1 ⟨d, es, kds, e1, e2, e3, h⟩ => by
  subst e1
  exact gv_bind (gv_of (by rw [e2]; exact e3) (gv_ok h)))
theorem v_dget2 (hp : Gv (f η M) fun x M1 => isDct M1 x = true ∧ Gv (g η M1) fun y M2 => Gv (k η M2) fun z M3 => ∃ r, dgetD M3 x y = some r ∧ P (r.getD z) M3) : Gv (xDGet2 f g k η M) P := gv_bind (hp.imp fun x M1 ⟨e, h1⟩ => by
  rw [if_pos e]
  exact gv_bind (h1.imp fun y M2 h2 => gv_bind (h2.imp fun z M3 ⟨r, e3, h3⟩ => gv_of (by rw [e3]; rfl) h3)))
theorem v_dput (hp : Gv (f η M) fun d M1 => Gv (g η M1) fun l M2 => Gv (k η M2) fun y M3 => ∃ n kds ky, l = .ptr n ∧ M3[n]? = some (.dT kds) ∧ asKey y = some ky ∧ kds.length < 100000 ∧ PF (.nx η) (M3.set n (.dT (putD kds ky d)))) : Gv (xDPut f g k η M) PF :=
  gv_bind (hp.imp fun d M1 h1 => gv_bind (h1.imp fun l M2 h2 => gv_bind (h2.imp fun y M3 ⟨n, kds, ky, e1, e2, e3, e4, h3⟩ => by
    subst e1
    simp only [e2, e3]
    rw [if_pos e4]
    exact gv_ok h3)))
theorem v_dcT {fi : XI} {gt : XG} {t : XT} {fk fv : XE} {vs : List Nat} (hp : Gv (fi η M) fun ds M1 => ds.length ≤ 100000 ∧ Gv (xDcL gt t fk fv ds (wipeD η vs) [] M1) fun acc M2 => P (.ptr M2.length) (M2 ++ [.dT acc])) : Gv (xDcT fi gt t fk fv vs η M) P := gv_bind (hp.imp fun ds M1 ⟨e, h⟩ => by
  rw [if_pos e]
  exact gv_bind (h.imp fun acc M2 h2 => gv_ok h2))
theorem v_dc_map {gt : XG} {t : XT} {fk fv : XE} (kk : D → List L2.Key) (vv : D → D) : ∀ (ds : List D) (acc : List (List L2.Key × D)), (∀ d ∈ ds, Gv (gt d η M) fun η1 M1 => Gv (t η1 M1) fun b M2 => b = true ∧ Gv (fk η1 M2) fun y M3 => asKey y = some (kk d) ∧ Gv (fv η1 M3) fun z M4 => z = vv d ∧ M4 = M) →
    Gv (xDcL gt t fk fv ds η acc M) fun r M1 => r = ds.foldl (fun a d => putD a (kk d) (vv d)) acc ∧ M1 = M
  | [], acc, _ => gv_ok ⟨rfl, rfl⟩
  | d :: ds, acc, hs => by
    unfold xDcL
    refine gv_bind (calm_gv ((hs d (List.mem_cons_self ..)).imp fun η1 M1 h1 => gv_bind (calm_gv (Gv.imp h1 fun b M2 h2 => ?_))))
    obtain ⟨rfl, h2⟩ := h2
    rw [if_pos rfl]
    refine gv_bind (calm_gv (Gv.imp h2 fun y M3 ⟨e1, h3⟩ => gv_bind (calm_gv (Gv.imp h3 fun z M4 ⟨e2, e3⟩ => ?_))))
    simp only [e1]
    rw [e2, e3]
    exact v_dc_map kk vv ds _ fun c hc => hs c (List.mem_cons_of_mem _ hc)
theorem v_lm {h : OpL} (hp : Gv (f η M) fun d M1 => ∃ n ds0, d = .ptr n ∧ M1[n]? = some (.lst ds0) ∧ Gv (fa η M1) fun es M2 => ∃ ds r, M2[n]? = some (.lst ds) ∧ h M2 ds es = some r ∧ P r.1 (M2.set n (.lst r.2))) : Gv (xLM h f fa η M) P :=
  gv_bind (hp.imp fun d M1 ⟨n, ds0, e1, e2, h1⟩ => by
    subst e1
    simp only [e2]
    exact gv_bind (h1.imp fun es M2 ⟨ds, r, e3, e4, h2⟩ => by
      obtain ⟨r1, r2⟩ := r
      simp only [e3, e4]
      exact gv_ok h2))
theorem v_listM (hp : Gv (fa η M) fun ds M1 => ∃ cs, bList M1 ds = some (.lst cs) ∧ P (.ptr M1.length) (M1 ++ [.lst cs])) : Gv (xListM fa η M) P := gv_bind (hp.imp fun ds M1 ⟨cs, e, h⟩ => by
  simp only [e]
  exact gv_ok h)
theorem v_lenO {fn : Fn} (hp : Gv (fa η M) fun ds M1 => ∃ d fs, ds = [d] ∧ asIns M1 d = some (x, fs) ∧ Gv (fn [d] M1) fun r M2 => ∃ n : Nat, r = .int (n : Int) ∧ n < 2 ^ 63 ∧ P (.int (n : Int)) M2) : Gv (xLenO x fn fa η M) P := gv_bind (hp.imp fun ds M1 ⟨d, fs, e1, e2, h⟩ => by
  subst e1
  simp only [e2, if_true]
  refine gv_bind (h.imp fun r M2 ⟨n, e3, e4, h2⟩ => ?_)
  subst e3
  unfold lenInt
  dsimp only
  rw [if_pos ⟨by omega, by omega⟩]
  exact gv_ok h2)
/-- a for over what may change -/
theorem v_forLP {gt : XG} {n : Option Nat} {ds0 : List D} (I : List D → Dv → Mem → Prop) (ds : List D) (h0 : I ds η M) (hc : ∀ r η M, I r η M → Ck n ds0 M) (hs : ∀ d r η M, I (d :: r) η M → Gv (gt d η M) fun η1 M1 => Gv (s η1 M1) fun fl M2 => match fl with
    | .nx η2 => I r η2 M2
    | .ct η2 => I r η2 M2
    | .bk η2 => PF (.nx η2) M2
    | .rt v => PF (.rt v) M2) (hd : ∀ η M, I [] η M → PF (.nx η) M) : Gv (xForLP n ds0 gt s ds η M) PF := by
  induction ds generalizing η M with
  | nil =>
    unfold xForLP
    rw [if_pos (hc _ _ _ h0)]
    exact gv_ok (hd _ _ h0)
  | cons d r ih =>
    unfold xForLP
    rw [if_pos (hc _ _ _ h0)]
    refine gv_bind ((hs d r η M h0).imp fun η1 M1 h1 => gv_bind (Gv.imp h1 fun fl M2 h2 => ?_))
    cases fl with
    | nx η2 => exact ih h2
    | ct η2 => exact ih h2
    | bk η2 => exact gv_ok h2
    | rt v => exact gv_ok h2
theorem v_forP {gt : XG} (hp : Gv (f η M) fun d M1 => ∃ n ds, d = .ptr n ∧ M1[n]? = some (.lst ds) ∧ Gv (xForLP (some n) ds gt s ds η M1) PF) : Gv (xForP (xPt f) gt s η M) PF := gv_bind (gv_bind (hp.imp fun d M1 ⟨n, ds, e1, e2, h⟩ => by
  subst e1
  simp only [e2]
  exact gv_ok h))
theorem v_forEi {gt : XG} (hp : Gv (f η M) fun d M1 => (∃ n ds, d = .ptr n ∧ M1[n]? = some (.lst ds) ∧ Gv (xForLP (some n) ds gt s ds η M1) PF) ∨ ∃ ds, isPtr d = false ∧ itemsD d = some ds ∧ Gv (xForLP none ds gt s ds η M1) PF) : Gv (xForP (xEi f) gt s η M) PF := by
  obtain ⟨d, M1, e, h⟩ := hp
  unfold xForP xEi
  rw [e]
  rcases h with ⟨n, ds, rfl, e2, h⟩ | ⟨ds, e1, e2, h⟩
  · dsimp only
    rw [if_pos (show isPtr (.ptr n) = true from rfl)]
    unfold xPt
    rw [e]
    simp only [R.bind_ok, e2]
    exact h
  · dsimp only
    rw [if_neg (by rw [e1]; decide)]
    unfold xStay xSq
    rw [e]
    simp only [R.bind_ok, e2, R.of_some]
    exact h
theorem gd_T {kds : List (List L2.Key × D)} {y v : D} {ky : List L2.Key} (h : asKey y = some ky) (hv : valD kds ky = some v) : gd M (.dcT kds) y = some v := by
  simp only [gd, dgetD, asDT, h, Option.map_some, hv, Option.bind_some, id]
theorem dget_T {kds : List (List L2.Key × D)} {y : D} {ky : List L2.Key} (h : asKey y = some ky) : dgetD M (.dcT kds) y = some (valD kds ky) := by
  simp only [dgetD, asDT, h, Option.map_some]
end
end Dn

/-! DnEval4: what the plain functions give, further forms -/
namespace Dn
open PySem PyProof.Rows L2 Evl
section
variable {M : Mem} {η : Dv} {P : D → Mem → Prop} {PA : List D → Mem → Prop} {PB : Bool → Mem → Prop} {PF : Fl → Mem → Prop} {f g k : XE} {fa : XA} {p q : XT} {s u : XS} {x : Str}
theorem v_zipS (h : Gv (fa η M) fun ds M1 => ∃ xs ys, ds = [.tup xs, .tup ys] ∧ xs.length = ys.length ∧ PA (xs.zip ys |>.map fun q => .tup [q.1, q.2]) M1) : Gv (xZipS fa η M) PA := gv_bind (h.imp fun ds M1 ⟨xs, ys, e, hl, h1⟩ => by
  subst e
  dsimp only
  rw [if_pos hl]
  exact gv_ok h1)
theorem v_eqO {neg : Bool} {fn : Fn} (hp : Gv (f η M) fun d1 M1 => Gv (g η M1) fun d2 M2 => ∃ fs gs, asIns M2 d1 = some (x, fs) ∧ asIns M2 d2 = some (x, gs) ∧ Gv (fn [d1, d2] M2) fun r M3 => ∃ b, r = .bl b ∧ P (.bl (if neg then !b else b)) M3) : Gv (xEqO neg x fn f g η M) P :=
  gv_bind (hp.imp fun d1 M1 h1 => gv_bind (h1.imp fun d2 M2 ⟨fs, gs, e1, e2, h2⟩ => by
    rw [e1, e2]
    dsimp only
    rw [if_pos ⟨rfl, rfl⟩]
    exact gv_bind (h2.imp fun r M3 ⟨b, e, h3⟩ => by subst e; exact gv_ok h3)))
theorem v_isO (hp : Gv (fa η M) fun ds M1 => ∃ d fs, ds = [d, .fn x] ∧ asIns M1 d = some (x, fs) ∧ P (.bl true) M1) : Gv (xIsO x fa η M) P := gv_bind (hp.imp fun ds M1 ⟨d, fs, e1, e2, h⟩ => by
  subst e1
  dsimp only
  rw [if_pos rfl, e2]
  dsimp only
  rw [if_pos rfl]
  exact gv_ok h)
theorem v_isNo (hp : Gv (fa η M) fun ds M1 => ∃ d t, ds = [d, .fn x] ∧ asIns M1 d = none ∧ tyN M1 d = some t ∧ t ∈ ["NoneType", "bool", "int", "str", "list", "tuple", "dict"] ∧ P (.bl false) M1) : Gv (xIsO x fa η M) P := gv_bind (hp.imp fun ds M1 ⟨d, t, e1, e2, e3, hm, h⟩ => by
  subst e1
  dsimp only
  rw [if_pos rfl, e2]
  dsimp only
  rw [e3]
  dsimp only
  rw [if_pos hm]
  exact gv_ok h)
/-- a comprehension that leaves the memory, over the told things e a -/
theorem v_lc_fa {α : Type} {gt : XG} {t : XT} (e : α → D) (p : α → Bool) (h : α → D) : ∀ (l : List α), (∀ a ∈ l, Gv (gt (e a) η M) fun η1 M1 => Gv (t η1 M1) fun b M2 => b = p a ∧ M2 = M ∧ (p a = true → Gv (f η1 M2) fun y M3 => y = h a ∧ M3 = M)) → Gv (xLcL gt t f (l.map e) η M) fun r M1 => r = (l.filter p).map h ∧ M1 = M := by
  intro l hl
  have key : ∀ (l2 : List α), (∀ a ∈ l2, a ∈ l) → Gv (xLcL gt t f (l2.map e) η M) fun r M1 => r = (l2.filter p).map h ∧ M1 = M := by
    intro l2
    induction l2 with
    | nil => exact fun _ => gv_ok ⟨rfl, rfl⟩
    | cons a l2 ih =>
      intro hm
      rw [List.map_cons]
      unfold xLcL
      refine gv_bind (calm_gv ((hl a (hm a (List.mem_cons_self ..))).imp fun η1 M1 h1 => gv_bind (calm_gv (Gv.imp h1 fun b M2 ⟨hb, hM, h2⟩ => ?_))))
      subst hb hM
      have ih' := ih fun c hc => hm c (List.mem_cons_of_mem _ hc)
      cases hp : p a with
      | true =>
        rw [List.filter_cons_of_pos hp]
        simp only [if_true]
        exact gv_bind (calm_gv <| (h2 hp).imp fun y M3 ⟨hy, hM3⟩ => by
          subst hy hM3
          exact gv_bind (ih'.imp fun r M4 ⟨hr, hM4⟩ => gv_ok ⟨by rw [hr]; rfl, hM4⟩))
      | false =>
        rw [List.filter_cons_of_neg (by rw [hp]; decide)]
        simp only [Bool.false_eq_true, if_false]
        exact ih'
  exact key l fun a ha => ha
theorem v_lc_ma {α : Type} {gt : XG} (e : α → D) (h : α → D) (l : List α) (hl : ∀ a ∈ l, Gv (gt (e a) η M) fun η1 M1 => Gv (f η1 M1) fun y M3 => y = h a ∧ M3 = M ∧ M1 = M) : Gv (xLcL gt xYes f (l.map e) η M) fun r M1 => r = l.map h ∧ M1 = M := by
  have := v_lc_fa (gt := gt) (t := xYes) (f := f) (η := η) (M := M) e (fun _ => true) h l fun a ha => (hl a ha).imp fun η1 M1 h1 => by
    obtain ⟨y, M3, e1, rfl, rfl, rfl⟩ := h1
    exact v_yes ⟨rfl, rfl, fun _ => ⟨_, _, e1, rfl, rfl⟩⟩
  rw [List.filter_eq_self.mpr fun _ _ => rfl] at this
  exact this
end
end Dn

/-! DnEval5: what the plain functions give: while, op=, enumerate, stars, two generators -/
namespace Dn
open PySem PyProof.Rows L2 Evl
section
variable {M : Mem} {η : Dv} {P : D → Mem → Prop} {PA : List D → Mem → Prop} {PB : Bool → Mem → Prop} {PF : Fl → Mem → Prop} {PD : Dv → Mem → Prop} {f g k : XE} {fa : XA} {t : XT} {s : XS}
theorem gv_ne {α : Type} {r : R α} {P : α → Mem → Prop} (h : Gv r P) : r ≠ .no := by
  obtain ⟨a, M, e, _⟩ := h
  rw [e]
  intro z
  cases z
/-- a while by a word with a measure -/
theorem v_while (I : Nat → Dv → Mem → Prop) (hs : ∀ n η M, I n η M → Gv (t η M) fun b M1 => if b = true then Gv (s η M1) fun fl M2 => match fl with
    | .nx η2 => ∃ m, m < n ∧ I m η2 M2
    | .ct η2 => ∃ m, m < n ∧ I m η2 M2
    | .bk η2 => PF (.nx η2) M2
    | .rt v => PF (.rt v) M2
    else PF (.nx η) M1) {n : Nat} (h0 : I n η M) : Gv (xWhile t s η M) PF := by
  have key : ∀ n η M, I n η M → Gv (xWhileN t s (n + 1) η M) PF := by
    intro n
    induction n using Nat.strongRecOn with
    | _ n ih =>
      intro η M h
      have go : ∀ η2 M2, (∃ m, m < n ∧ I m η2 M2) → Gv (xWhileN t s n η2 M2) PF := by
        rintro η2 M2 ⟨m, hm, hI⟩
        have g := ih m hm η2 M2 hI
        obtain ⟨j, rfl⟩ : ∃ j, n = m + 1 + j := ⟨n - (m + 1), by omega⟩
        rw [whileN_more (m + 1) j η2 M2 (gv_ne g)]
        exact g
      refine gv_bind ((hs n η M h).imp fun b M1 h1 => ?_)
      cases b with
      | false =>
        rw [if_neg (by decide)] at h1
        exact gv_ok h1
      | true =>
        rw [if_pos rfl] at h1
        refine gv_bind (Gv.imp h1 fun fl M2 h2 => ?_)
        cases fl with
        | nx η2 => exact go η2 M2 h2
        | ct η2 => exact go η2 M2 h2
        | bk η2 => exact gv_ok h2
        | rt v => exact gv_ok h2
  have g := key n η M h0
  rw [while_at (gv_ne g)]
  exact g
theorem v_augN {h : Int → Int → Int} {i : Nat} {a : Int} (h0 : η[i]? = some (some (.int a))) (hp : Gv (f η M) fun y M1 => ∃ b, y = .int b ∧ PF (.nx (η.set i (some (.int (h a b))))) M1) : Gv (xAugN h i f η M) PF := by
  unfold xAugN
  rw [h0]
  exact gv_bind (hp.imp fun y M1 ⟨b, e, h1⟩ => by subst e; exact gv_ok h1)
theorem v_augL {h : Int → Int → Int} (hp : Gv (f η M) fun l M1 => Gv (g η M1) fun z M2 => ∃ n j ds a, l = .ptr n ∧ z = .int ((j : Nat) : Int) ∧ M2[n]? = some (.lst ds) ∧ ds[j]? = some (.int a) ∧ Gv (k η M2) fun y M3 => ∃ b es, y = .int b ∧ M3[n]? = some (.lst es) ∧ j < es.length ∧ es.length < 2 ^ 62 ∧ PF (.nx η) (M3.set n (.lst (es.set j (.int (h a b)))))) :
    Gv (xAugL h f g k η M) PF :=
  gv_bind (hp.imp fun l M1 h1 => gv_bind (h1.imp fun z M2 ⟨n, j, ds, a, e1, e2, e3, e4, h2⟩ => by
    subst e1 e2
    dsimp only
    rw [if_pos (Int.natCast_nonneg j), e3]
    dsimp only
    rw [Int.toNat_natCast, e4]
    dsimp only
    exact gv_bind (h2.imp fun y M3 ⟨b, es, e5, e6, hj, hl, h3⟩ => by
      subst e5
      rw [e6]
      dsimp only
      have e7 : ixN es.length (j : Int) = some j := by
        simp only [ixN]
        simp [hj]
      rw [e7]
      exact gv_ok h3)))
theorem v_enumT (h : Gv (fa η M) fun ds M1 => ∃ xs, (ds = [.tup xs] ∨ ds = [.lst xs]) ∧ PA (numD xs) M1) : Gv (xEnum fa η M) PA := gv_bind (h.imp fun ds M1 ⟨xs, e, h1⟩ => by
  rcases e with e | e <;> subst e <;> exact gv_ok h1)
theorem v_zip3 (h : Gv (fa η M) fun ds M1 => ∃ xs ys zs, ds = [.tup xs, .tup ys, .tup zs] ∧ ys.length = xs.length ∧ zs.length = xs.length ∧ PA (zip3D xs ys zs) M1) : Gv (xZip3 fa η M) PA := gv_bind (h.imp fun ds M1 ⟨xs, ys, zs, e, h1, h2, h3⟩ => by
  subst e
  dsimp only
  rw [if_pos ⟨h1, h2⟩]
  exact gv_ok h3)
theorem v_star {gs : List D → Dv → Mem → R Dv} {d x : D} {rest : List D} (hd : asSeq M d = some (x :: rest)) (h : Gv (gs [x, .ptr M.length] η (M ++ [.lst rest])) PD) : Gv (xgStar gs d η M) PD := by
  unfold xgStar
  rw [hd]
  exact h
theorem v_repM (hp : Gv (f η M) fun x M1 => Gv (g η M1) fun y M2 => ∃ ds k, asP M2 x = some ds ∧ y = .int k ∧ 0 ≤ k ∧ k ≤ 1000 ∧ ds.length ≤ 1000 ∧ P (.ptr M2.length) (M2 ++ [.lst (repD k ds)])) : Gv (xRepM f g η M) P :=
  gv_bind (hp.imp fun x M1 h1 => gv_bind (h1.imp fun y M2 ⟨ds, k, e1, e2, a1, a2, a3, h2⟩ => by
    subst e2
    rw [e1]
    dsimp only
    rw [if_pos ⟨a1, a2, a3⟩]
    exact gv_ok h2))
theorem v_dict0K (hp : P (.ptr M.length) (M ++ [.dK []])) : Gv (xDict0K η M) P := gv_ok hp
theorem v_dputK {h : XE} (hp : Gv (h η M) fun d M1 => Gv (f η M1) fun l M2 => Gv (g η M2) fun y M3 => ∃ n kds ky, l = .ptr n ∧ M3[n]? = some (.dK kds) ∧ asK1 y = some ky ∧ kds.length < 100000 ∧ PF (.nx η) (M3.set n (.dK (putD kds ky d)))) : Gv (xDPutK h f g η M) PF :=
  gv_bind (hp.imp fun d M1 h1 => gv_bind (h1.imp fun l M2 h2 => gv_bind (h2.imp fun y M3 ⟨n, kds, ky, e1, e2, e3, hl, h3⟩ => by
    subst e1
    dsimp only
    rw [e2]
    dsimp only
    rw [e3]
    dsimp only
    rw [if_pos hl]
    exact gv_ok h3)))
/-- two generators that leave the memory -/
theorem v_lc2_map {α β : Type} {gt g1 : XG} {t1 : XT} {fi1 : XI} {vs1 : List Nat} (e : α → D) (e1 : α → β → D) (inner : α → List β) (h : α → β → D) : ∀ (l : List α), (∀ a ∈ l, Gv (gt (e a) η M) fun η1 M1 => M1 = M ∧ Gv (t η1 M1) fun b M2 => b = true ∧ M2 = M ∧ Gv (fi1 η1 M2) fun es M3 => es = (inner a).map (e1 a) ∧ M3 = M ∧ es.length ≤ 1000 ∧
      ∀ c ∈ inner a, Gv (g1 (e1 a c) (wipeD η1 vs1) M) fun η2 M4 => M4 = M ∧ Gv (t1 η2 M4) fun b M5 => b = true ∧ M5 = M ∧ Gv (f η2 M5) fun y M6 => y = h a c ∧ M6 = M) →
    Gv (xLc2L gt t fi1 g1 t1 f vs1 (l.map e) η M) fun r M1 => r = (l.map fun a => (inner a).map (h a)).flatten ∧ M1 = M := by
  intro l
  induction l with
  | nil => intro _; exact gv_ok ⟨rfl, rfl⟩
  | cons a l ih =>
    intro hl
    have ih' := ih fun c hc => hl c (List.mem_cons_of_mem _ hc)
    rw [List.map_cons]
    unfold xLc2L
    refine gv_bind (calm_gv ((hl a (List.mem_cons_self ..)).imp fun η1 M1 ⟨hM1, h1⟩ => ?_))
    subst hM1
    refine gv_bind (calm_gv (Gv.imp h1 fun b M2 ⟨hb, hM2, h2⟩ => ?_))
    subst hb hM2
    simp only [if_true]
    refine gv_bind (calm_gv (Gv.imp h2 fun es M3 ⟨he, hM3, hlen, h3⟩ => ?_))
    subst he hM3
    rw [if_pos hlen]
    have hin : Gv (xLcL g1 t1 f ((inner a).map (e1 a)) (wipeD η1 vs1) M3) fun r M1 => r = ((inner a).filter fun _ => true).map (h a) ∧ M1 = M3 :=
      v_lc_fa (e1 a) (fun _ => true) (h a) (inner a) fun c hc => (h3 c hc).imp fun η2 M4 ⟨hM4, h4⟩ => by
        subst hM4
        exact Gv.imp h4 fun b M5 ⟨hb, hM5, h5⟩ => ⟨hb, hM5, fun _ => by subst hM5; exact h5⟩
    refine gv_bind (hin.imp fun r1 M4 ⟨hr, hM4⟩ => ?_)
    subst hM4
    refine gv_bind (ih'.imp fun r M5 ⟨hr2, hM5⟩ => gv_ok ⟨?_, hM5⟩)
    rw [hr, hr2, List.map_cons, List.flatten_cons, List.filter_eq_self.mpr fun _ _ => rfl]
theorem v_lc2 {fi fi1 : XI} {gt g1 : XG} {t1 : XT} {vs vs1 : List Nat} (h : Gv (fi η M) fun ds M1 => ds.length ≤ 1000 ∧ Gv (xLc2L gt t fi1 g1 t1 f vs1 ds (wipeD η vs) M1) fun r M2 => P (.lst r) M2) : Gv (xLc2 frozenL fi gt t fi1 g1 t1 f vs vs1 η M) P := gv_bind (h.imp fun ds M1 ⟨e, h1⟩ => by
  rw [if_pos e]
  exact gv_bind (h1.imp fun r M2 h2 => gv_ok h2))
end
end Dn

/-! DnEval6: what the plain functions give: errors, dicts by texts, op= of dicts, defs held by a name -/
namespace Dn
open PySem PyProof.Rows L2 Evl
/-- it comes to a value of which P holds, or to an error of which PX holds -/
def Go {α : Type} (r : R α) (P : α → Mem → Prop) (PX : Exc → Mem → Prop) : Prop := match r with
  | .ok a M => P a M
  | .ex e M => PX e M
  | .no => False
section
variable {M : Mem} {η : Dv} {P : D → Mem → Prop} {PA : List D → Mem → Prop} {PB : Bool → Mem → Prop} {PF : Fl → Mem → Prop} {PX : Exc → Mem → Prop} {f g k : XE} {fa : XA} {s u : XS}
theorem go_ok {α : Type} {r : R α} {P : α → Mem → Prop} (h : Gv r P) : Go r P PX := by
  obtain ⟨a, M1, e, h⟩ := h
  rw [e]
  exact h
theorem Go.imp {α : Type} {r : R α} {P Q : α → Mem → Prop} {PX PY : Exc → Mem → Prop} (h : Go r P PX) (h1 : ∀ a M, P a M → Q a M) (h2 : ∀ e M, PX e M → PY e M) : Go r Q PY := by
  cases r with
  | ok a M => exact h1 _ _ h
  | ex e M => exact h2 _ _ h
  | no => exact h
theorem go_bind {α β : Type} {r : R α} {k : α → Mem → R β} {P : β → Mem → Prop} (h : Go r (fun a M1 => Go (k a M1) P PX) PX) : Go (r.bind k) P PX := by
  cases r with
  | ok a M => exact h
  | ex e M => exact h
  | no => exact h
theorem gv_go {α : Type} {r : R α} {P : α → Mem → Prop} (h : Go r P fun _ _ => False) : Gv r P := by
  cases r with
  | ok a M => exact ⟨a, M, rfl, h⟩
  | ex e M => exact h.elim
  | no => exact h.elim
theorem go_seq (h : Go (s η M) (fun fl M1 => Go (thenS u fl M1) PF PX) PX) : Go (xSeq s u η M) PF PX := go_bind h
theorem go_forL {gt : XG} (I : List D → Dv → Mem → Prop) (ds : List D) (h0 : I ds η M) (hs : ∀ d r η M, I (d :: r) η M → Gv (gt d η M) fun η1 M1 => Go (s η1 M1) (fun fl M2 => match fl with
    | .nx η2 => I r η2 M2
    | .ct η2 => I r η2 M2
    | .bk _ => False
    | .rt _ => False) PX) (hd : ∀ η M, I [] η M → PF (.nx η) M) : Go (xForL gt s ds η M) PF PX := by
  induction ds generalizing η M with
  | nil =>
    unfold xForL
    exact hd _ _ h0
  | cons d r ih =>
    unfold xForL
    obtain ⟨η1, M1, e, h1⟩ := hs d r η M h0
    rw [e, R.bind_ok]
    refine go_bind (Go.imp h1 (fun fl M2 h2 => ?_) fun _ _ h => h)
    cases fl with
    | nx η2 => exact ih h2
    | ct η2 => exact ih h2
    | bk η2 => exact h2.elim
    | rt v => exact h2.elim
theorem go_for {fi : XI} {gt : XG} (h : Gv (fi η M) fun ds M1 => Go (xForL gt s ds η M1) PF PX) : Go (xFor fi gt s η M) PF PX := go_bind (go_ok h)
theorem go_ifS {p : XT} (h : Gv (p η M) fun b M1 => if b = true then Go (s η M1) PF PX else Go (u η M1) PF PX) : Go (xIfS p s u η M) PF PX := go_bind (go_ok (h.imp fun b M1 h => by
  cases b with
  | true => exact h
  | false => exact h))
theorem go_raise {x fl : Str} (h : Gv (g η M) fun d M1 => PX ⟨x, [("called", .str x), (fl, d)]⟩ M1) : Go (xRaise x fl g η M) PF PX := go_bind (go_ok h)
theorem go_body {n N : Nat} {b : XS} {ds : List D} (hl : ds.length = n) (h : Go (b (ds.map some ++ List.replicate (N - n) none) M) (fun fl M1 => match fl with
    | .rt d => P d M1
    | .nx _ => P .non M1
    | _ => False) PX) : Go (callB n N b ds M) P PX := by
  unfold callB
  rw [if_pos hl]
  refine go_bind (h.imp (fun fl M1 h1 => ?_) fun _ _ h => h)
  cases fl with
  | rt d => exact h1
  | nx _ => exact h1
  | bk _ => exact h1.elim
  | ct _ => exact h1.elim
theorem go_fn {n : Nat} {fn : Fn} (hp : Gv (fa η M) fun ds M1 => ds.length = n ∧ Go (fn ds M1) P PX) : Go (xFn n fn fa η M) P PX := go_bind (go_ok (hp.imp fun ds M1 ⟨e, h2⟩ => by
  rw [if_pos e]
  exact h2))
theorem v_fnC {n : Nat} {fn : Fn} (hp : Gv (fa η M) fun ds M1 => ds.length = n ∧ Gv (fn ds M1) P) : Gv (xFnC n fn fa η M) P := gv_bind (hp.imp fun ds M1 ⟨e, h2⟩ => by
  rw [if_pos e]
  exact calm_gv h2)
theorem v_barred {x fl : Str} {ie io ia : Nat} {i : Int} (h2 : η[ia]? = some (some (.int i))) (h3 : ie < η.length) (h4 : io < η.length) (h5 : i.natAbs.log2 < 1920) (h : Go (g η M) (fun _ _ => False) fun e M1 => e.fs.lookup fl = some (.int i) ∧ e.cls = x ∧ PF (.rt (.bl true)) M1) : Gv (xBarred x fl ie io ia g η M) PF := by
  unfold xBarred
  cases hg : g η M with
  | no => rw [hg] at h; exact h.elim
  | ok d M1 => rw [hg] at h; exact h.elim
  | ex e M1 =>
    rw [hg] at h
    obtain ⟨h1, h6, h7⟩ := h
    dsimp only
    rw [h1, h2]
    dsimp only
    rw [if_pos ⟨h6, h3, h4, rfl, h5⟩]
    exact gv_ok h7
theorem v_ct (h : PF (.ct η) M) : Gv (xCt η M) PF := gv_ok h
theorem v_thc {η' : Dv} (h : PF (.ct η') M) : Gv (thenS u (.ct η') M) PF := gv_ok h
theorem v_callL {i n : Nat} {tab : List (Str × Fn)} {y : Str} {fn : Fn} (h1 : η[i]? = some (some (.fn y))) (h2 : tab.lookup y = some fn) (hp : Gv (fa η M) fun ds M1 => ds.length = n ∧ Gv (fn ds M1) P) : Gv (xCallL i n tab fa η M) P := by
  unfold xCallL
  rw [h1]
  dsimp only
  rw [h2]
  exact gv_bind (hp.imp fun ds M1 ⟨e, h⟩ => by rw [if_pos e]; exact h)
theorem v_augD {h : Int → Int → Int} (hp : Gv (f η M) fun l M1 => Gv (g η M1) fun y M2 => ∃ n a, l = .ptr n ∧ dgetD M2 l y = some (some (.int a)) ∧ Gv (k η M2) fun z M3 => ∃ b M4, z = .int b ∧ augD M3 n y (.int (h a b)) = some M4 ∧ PF (.nx η) M4) : Gv (xAugD h f g k η M) PF :=
  gv_bind (hp.imp fun l M1 h1 => gv_bind (h1.imp fun y M2 ⟨n, a, e1, e2, h2⟩ => by
    subst e1
    rw [e2]
    exact gv_bind (h2.imp fun z M3 ⟨b, M4, e3, e4, h3⟩ => by
      subst e3
      dsimp only
      rw [e4]
      exact gv_ok h3)))
theorem v_dictPK (hp : Gv (fa η M) fun ds M1 => ∃ d es kds, ds = [d] ∧ asL M1 d = some es ∧ pairsK es = some kds ∧ P (.ptr M1.length) (M1 ++ [.dK (mergeD [] kds)])) : Gv (xDictPK fa η M) P :=
  gv_bind (hp.imp fun ds M1 ⟨d, es, kds, e1, e2, e3, h⟩ => by
    subst e1
    simp only [e2, Option.bind_some, e3, R.of_some, R.bind_ok]
    exact gv_ok h)
theorem v_dcK {fi : XI} {gt : XG} {t : XT} {fk fv : XE} {vs : List Nat} (hp : Gv (fi η M) fun ds M1 => ds.length ≤ 100000 ∧ Gv (xDcKL gt t fk fv ds (wipeD η vs) [] M1) fun acc M2 => P (.ptr M2.length) (M2 ++ [.dK acc])) : Gv (xDcK fi gt t fk fv vs η M) P := gv_bind (hp.imp fun ds M1 ⟨e, h⟩ => by
  rw [if_pos e]
  exact gv_bind (h.imp fun acc M2 h2 => gv_ok h2))
theorem v_dcK_map {gt : XG} {t : XT} {fk fv : XE} (kk : D → L2.Key) (vv : D → D) : ∀ (ds : List D) (acc : List (L2.Key × D)), (∀ d ∈ ds, Gv (gt d η M) fun η1 M1 => Gv (t η1 M1) fun b M2 => b = true ∧ Gv (fk η1 M2) fun y M3 => asK1 y = some (kk d) ∧ Gv (fv η1 M3) fun z M4 => z = vv d ∧ M4 = M) →
    Gv (xDcKL gt t fk fv ds η acc M) fun r M1 => r = ds.foldl (fun a d => putD a (kk d) (vv d)) acc ∧ M1 = M
  | [], acc, _ => gv_ok ⟨rfl, rfl⟩
  | d :: ds, acc, hs => by
    unfold xDcKL
    refine gv_bind (calm_gv ((hs d (List.mem_cons_self ..)).imp fun η1 M1 h1 => gv_bind (calm_gv (Gv.imp h1 fun b M2 h2 => ?_))))
    obtain ⟨rfl, h2⟩ := h2
    rw [if_pos rfl]
    refine gv_bind (calm_gv (Gv.imp h2 fun y M3 ⟨e1, h3⟩ => gv_bind (calm_gv (Gv.imp h3 fun z M4 ⟨e2, e3⟩ => ?_))))
    simp only [e1]
    rw [e2, e3]
    exact v_dcK_map kk vv ds _ fun c hc => hs c (List.mem_cons_of_mem _ hc)
end
end Dn

namespace Law
open PySem PyProof.Rows L2 Evl Dn
def top (i : Nat) : Stmt := PySem.Challenge.pw_crowdpurse_k11_places_unlocked_and_locke.main.body.getD i (.Pass ⟨0, 0, 0, 0⟩)
abbrev E0W : WX := fun _ _ _ _ => False
def xNv : XS := fun _ _ => .no
/-- what the module's names hold -/
def tin_CAN : List (Str × Bool) := [("unlock", true), ("lock", true), ("Lock", false)]
def tget_CAN : List (Str × D) := [("unlock", .fn "can_unlock"), ("lock", .fn "can_lock")]
def tin_COUNTS : List (Str × Bool) := []
def tget_COUNTS : List (Str × D) := [("unlock", .int 2), ("lock", .int 1)]
def tin_PUT : List (Str × Bool) := []
def tget_PUT : List (Str × D) := [("unlock", .fn "put_places"), ("lock", .fn "put_places")]
structure G (w : World) (K : PySem.W.Frag) (mg : Str → Option Value) : Prop where
  z_ValueError : mg "ValueError" = none
  z_abs : mg "abs" = none
  z_all : mg "all" = none
  z_any : mg "any" = none
  z_bool : mg "bool" = none
  z_dict : mg "dict" = none
  z_enumerate : mg "enumerate" = none
  z_int : mg "int" = none
  z_isinstance : mg "isinstance" = none
  z_len : mg "len" = none
  z_list : mg "list" = none
  z_max : mg "max" = none
  z_min : mg "min" = none
  z_range : mg "range" = none
  z_repr : mg "repr" = none
  z_sorted : mg "sorted" = none
  z_str : mg "str" = none
  z_sum : mg "sum" = none
  z_tuple : mg "tuple" = none
  z_zip : mg "zip" = none
  g_MOST_AT_ONCE : ∃ u, mg "MOST_AT_ONCE" = some u ∧ RelV (.int 50) u
  c_Table : ClsD K "Table" ["kinds", "amounts"]
  c_Stand : ClsD K "Stand" ["kinds", "plan", "sets", "amounts", "stock", "people", "pieces", "home"]
  d_CAN : KtD K w mg "CAN" tin_CAN tget_CAN
  d_COUNTS : KtD K w mg "COUNTS" tin_COUNTS tget_COUNTS
  d_PUT : KtD K w mg "PUT" tin_PUT tget_PUT
  xs_NoBook : XsD K mg "NoBook" "at" ["NoCount", "NoHouse", "NoName", "NoRow", "NoText", "Taken"]
/-! NoBook -/
abbrev s_NoBook_init : Stmt := inClass (top 2) 0
theorem sc_NoBook_init : FnScope ["self", "at"] ["self", "at"] (defScope s_NoBook_init) := ⟨rfl, rfl, rfl, by decide +kernel, rfl, by decide +kernel, by decide +kernel⟩
theorem okI_NoBook {P : Program} {w : World} {K : PySem.W.Frag} {mg : Str → Option Value} {base : Heap} {f C : Addr} {fd : FuncData} (F : Fun K "__init__" "NoBook.__init__" s_NoBook_init f fd) (O : OexC K C) (h1 : PySem.W.findIn K (.ref C) "at" = some none) (h2 : PySem.W.findIn K (.ref C) "called" = some none) (hm : mg "ValueError" = none) (vV : PySem.W.findCls K (.type "ValueError") (.type "type") "__init__" = some (.val (.builtin "ValueError.__init__"))) : FnOk P w K mg base CX0 1 f fd ["self", "at"] (spI K C "at" "NoBook") :=
  init_ok (k := 0) F sc_NoBook_init rfl rfl O h1 h2 fun cdv A outer s H E => pss_cons (ps_expr (pe_veinit (by rfl) hm vV (pa_cons (pe_var (i := 0) rfl (Or.inl rfl)) (pa_cons pe_str pa_nil)))) (pss_cons (ps_ost (pe_var (i := 0) rfl (Or.inl rfl)) (pe_var (i := 1) rfl (Or.inl rfl))) (pss_one (ps_ost (pe_var (i := 0) rfl (Or.inl rfl)) pe_str)))
/-! _law_take -/
abbrev s_law_take : Stmt := top 64
abbrev n_law_take : List Str := ["_law_bag_here", "_law_often", "_law_digit", "_law_primes", "_law_step", "_law_base", "_law_found"]
theorem sc_law_take : FnScope n_law_take ["_law_bag_here", "_law_often"] (defScope s_law_take) := ⟨rfl, rfl, rfl, by decide +kernel, rfl, by decide +kernel, by decide +kernel⟩
noncomputable def b_law_take : XS := (xSeq (xIfS (xTst (xOp dGt (xOp dIx (xVar 0) (xC (.int 0))) (xC (.int 0)))) (xSeq (xAsg (xOp dMod (xOp dIx (xVar 0) (xC (.int 0))) (xVar 1)) (xgName 2)) (xSeq (xSetL (xOp dDiv (xOp dIx (xVar 0) (xC (.int 0))) (xVar 1)) (xVar 0) (xC (.int 0))) (xRet (xVar 2)))) xNx) (xSeq (xAsg (xTup (xCons (xC (.int 2147483647)) (xCons (xC (.int 2147483629)) (xCons (xC (.int 2147483587)) (xCons (xC (.int 2147483579)) (xCons (xC (.int 2147483563)) (xCons (xC (.int 2147483549)) (xCons (xC (.int 2147483543)) (xCons (xC (.int 2147483497)) xNil))))))))) (xgName 3)) (xSeq (xSetL (xOp dAdd (xOp dIx (xVar 0) (xC (.int 2))) (xC (.int 1))) (xVar 0) (xC (.int 2))) (xSeq (xAsg (xOp dIx (xVar 0) (xC (.int 2))) (xgName 4)) (xSeq (xAsg (xOp dAdd (xOp dAdd (xOp dMul (xOp dIx (xVar 0) (xC (.int 1))) (xOp dAdd (xOp dMul (xC (.int 2)) (xVar 4)) (xC (.int 1)))) (xOp dMul (xOp dMul (xC (.int 6121)) (xVar 4)) (xVar 4))) (xC (.int 41))) (xgName 5)) (xSeq (xAsg (xOp dMod (xOp dPow (xVar 5) (xC (.int 3))) (xOp dIx (xVar 3) (xOp dMod (xVar 4) (xC (.int 8))))) (xgName 6)) (xRet (xOp dMod (xOp dDiv (xOp dMod (xOp dMul (xVar 6) (xOp dAdd (xOp dDiv (xVar 6) (xC (.int 4096))) (xC (.int 19)))) (xOp dIx (xVar 3) (xOp dMod (xOp dAdd (xVar 4) (xC (.int 3))) (xC (.int 8))))) (xC (.int 16))) (xVar 1)))))))))
noncomputable def f_law_take : Fn := callB 2 7 b_law_take
theorem ok_law_take {P : Program} {w : World} {K : PySem.W.Frag} {mg : Str → Option Value} {base : Heap} {f : Addr} {fd : FuncData} (T : G w K mg) (F : Fun K "_law_take" "_law_take" s_law_take f fd) : FnOk P w K mg base CX0 1 f fd ["_law_bag_here", "_law_often"] (spF K mg 2 f_law_take) :=
  fn_okE (k := 0) (body := b_law_take) F sc_law_take rfl rfl rfl rfl fun cdv A outer s H E W hr =>
  (dss_cons (ds_if (dt_cmp od_gt (de_ix (de_var (i := 0)) de_int) de_int (nomark _)) (dss_cons (ds_set (i := 2) sc_law_take.nd (de_op od_mod (de_ix (de_var (i := 0)) de_int) (de_var (i := 1)))) (dss_cons (ds_setL (de_op od_div (de_ix (de_var (i := 0)) de_int) (de_var (i := 1))) (de_var (i := 0)) de_int) (dss_one (ds_ret (de_var (i := 2)))))) dss_nil) (dss_cons (ds_set (i := 3) sc_law_take.nd (de_tup (da_cons de_int (da_cons de_int (da_cons de_int (da_cons de_int (da_cons de_int (da_cons de_int (da_cons de_int (da_cons de_int da_nil)))))))))) (dss_cons (ds_setL (de_op od_add (de_ix (de_var (i := 0)) de_int) de_int) (de_var (i := 0)) de_int) (dss_cons (ds_set (i := 4) sc_law_take.nd (de_ix (de_var (i := 0)) de_int)) (dss_cons (ds_set (i := 5) sc_law_take.nd (de_op od_add (de_op od_add (de_op od_mul (de_ix (de_var (i := 0)) de_int) (de_op od_add (de_op od_mul de_int (de_var (i := 4))) de_int)) (de_op od_mul (de_op od_mul de_int (de_var (i := 4))) (de_var (i := 4)))) de_int)) (dss_cons (ds_set (i := 6) sc_law_take.nd (de_op od_mod (de_op od_pow (de_var (i := 5)) de_int) (de_ix (de_var (i := 3)) (de_op od_mod (de_var (i := 4)) de_int)))) (dss_one (ds_ret (de_op od_mod (de_op od_div (de_op od_mod (de_op od_mul (de_var (i := 6)) (de_op od_add (de_op od_div (de_var (i := 6)) de_int) de_int)) (de_ix (de_var (i := 3)) (de_op od_mod (de_op od_add (de_var (i := 4)) de_int) de_int))) de_int) (de_var (i := 1)))))))))))
/-! set_order -/
abbrev s_set_order : Stmt := top 16
abbrev n_set_order : List Str := ["of"]
theorem sc_set_order : FnScope n_set_order ["of"] (defScope s_set_order) := ⟨rfl, rfl, rfl, by decide +kernel, rfl, by decide +kernel, by decide +kernel⟩
noncomputable def b_set_order : XS := (xRet (xTup (xCons (xCall bLen (xCons (xVar 0) xNil)) (xCons (xVar 0) xNil))))
noncomputable def f_set_order : Fn := callB 1 1 b_set_order
theorem ok_set_order {P : Program} {w : World} {K : PySem.W.Frag} {mg : Str → Option Value} {base : Heap} {f : Addr} {fd : FuncData} (T : G w K mg) (F : Fun K "set_order" "set_order" s_set_order f fd) : FnOk P w K mg base CX0 1 f fd ["of"] (spF K mg 1 f_set_order) :=
  fn_okE (k := 0) (body := b_set_order) F sc_set_order rfl rfl rfl rfl fun cdv A outer s H E W hr =>
  (dss_one (ds_ret (de_tup (da_cons (de_callB cd_len (by rfl) T.z_len bt_len (da_cons (de_var (i := 0)) da_nil)) (da_cons (de_var (i := 0)) da_nil)))))
/-! sets_of -/
abbrev s_sets_of : Stmt := top 17
abbrev n_sets_of : List Str := ["kinds", "found", "kind", "of"]
theorem sc_sets_of : FnScope n_sets_of ["kinds"] (defScope s_sets_of) := ⟨rfl, rfl, rfl, by decide +kernel, rfl, by decide +kernel, by decide +kernel⟩
noncomputable def b_sets_of : XS := (xSeq (xAsg (xLst (xCons (xTup xNil) xNil)) (xgName 1)) (xSeq (xFor (xSq (xVar 0)) (xgName 2) (xAsg (xOp dAdd (xVar 1) (xLc frozenL (xSq (xVar 1)) (xgName 3) xYes (xOp dAdd (xVar 3) (xTup (xCons (xVar 2) xNil))) [3])) (xgName 1))) (xRet (xSortK frozenL f_set_order (xLc frozenL (xSq (xVar 1)) (xgName 3) (xTst (xOp (eqM true) (xVar 3) (xTup xNil))) (xVar 3) [3])))))
noncomputable def f_sets_of : Fn := callB 1 4 b_sets_of
theorem ok_sets_of {P : Program} {w : World} {K : PySem.W.Frag} {mg : Str → Option Value} {base : Heap} {f : Addr} {fd : FuncData} (T : G w K mg) (C_set_order : FnD P w K mg base 1 "set_order" 1 f_set_order) (F : Fun K "sets_of" "sets_of" s_sets_of f fd) : FnOk P w K mg base CX0 4 f fd ["kinds"] (spF K mg 1 f_sets_of) :=
  fn_okE (k := 3) (body := b_sets_of) F sc_sets_of rfl rfl rfl rfl fun cdv A outer s H E W hr =>
  (dss_cons (ds_set (i := 1) sc_sets_of.nd (de_lst (da_cons (de_tup da_nil) da_nil))) (dss_cons (ds_for PassesOwn.never rfl (di_sq (de_var (i := 0))) (dg_name (i := 2) sc_sets_of.nd) (dss_one (ds_set (i := 1) sc_sets_of.nd (de_op od_add (de_var (i := 1)) (de_lc (own := [("of", 3)]) (W' := E0W) fin_frozen rfl sc_sets_of.nd (di_sq (de_var (i := 1))) (blkOk_by (own := [("of", 3)]) (N := n_sets_of) (sc := defScope s_sets_of) (by decide +kernel)) (fun _ _ _ _ _ => (dg_name (i := 3) sc_sets_of.nd)) (fun _ _ _ _ _ => dts_nil) (fun _ _ _ _ _ => (de_op od_add (de_var (i := 3)) (de_tup (da_cons (de_var (i := 2)) da_nil)))) (by decide)))))) (dss_one (ds_ret (de_sortK fin_frozen C_set_order (hr.mono (by decide)) (by rfl) (by rfl) T.z_sorted (de_lc (own := [("of", 3)]) (W' := E0W) fin_frozen rfl sc_sets_of.nd (di_sq (de_var (i := 1))) (blkOk_by (own := [("of", 3)]) (N := n_sets_of) (sc := defScope s_sets_of) (by decide +kernel)) (fun _ _ _ _ _ => (dg_name (i := 3) sc_sets_of.nd)) (fun _ _ _ _ _ => (dts_one (dt_cmp (od_neM hr) (de_var (i := 3)) (de_tup da_nil) (nomark _)))) (fun _ _ _ _ _ => (de_var (i := 3))) (by decide)))))))
/-! Table.__init__ -/
abbrev s_Table_init : Stmt := inClass (top 19) 0
abbrev n_Table_init : List Str := ["self", "kinds", "rows", "of", "many"]
theorem sc_Table_init : FnScope n_Table_init ["self", "kinds", "rows"] (defScope s_Table_init) := ⟨rfl, rfl, rfl, by decide +kernel, rfl, by decide +kernel, by decide +kernel⟩
noncomputable def b_Table_init : XS := (xSeq (xSetF "Table" "kinds" (xVar 1) (xVar 0)) (xSeq (xSetF "Table" "amounts" (xDcT (xSq (xFn 1 f_sets_of (xCons (xVar 1) xNil))) (xgName 3) xYes (xVar 3) (xC (.int 0)) [3]) (xVar 0)) (xForP (xEi (xVar 2)) (xgTup 2 (xgsCons (xgName 3) (xgsCons (xgName 4) xgsNil))) (xDPut (xVar 4) (xFld "Table" "amounts" (xVar 0)) (xVar 3)))))
noncomputable def f_Table_init : Fn := callB 3 5 b_Table_init
theorem ok_Table_init {P : Program} {w : World} {K : PySem.W.Frag} {mg : Str → Option Value} {base : Heap} {f : Addr} {fd : FuncData} (T : G w K mg) (C_sets_of : FnD P w K mg base 4 "sets_of" 1 f_sets_of) {dvs : List V} {kws : List (Str × V)} (F : FunD K "__init__" "Table.__init__" (defArgs s_Table_init) (defBody s_Table_init) (defScope s_Table_init) dvs kws f fd) : FnOk P w K mg base CX0 5 f fd ["self", "kinds", "rows"] (spF K mg 3 f_Table_init) :=
  fnD_okE (k := 4) (body := b_Table_init) F sc_Table_init rfl rfl rfl rfl fun cdv A outer s H E W hr =>
  (dss_cons (ds_setF T.c_Table (by decide) (de_var (i := 1)) (de_var (i := 0))) (dss_cons (ds_setF T.c_Table (by decide) (de_dcT (own := [("of", 3)]) (W' := E0W) hr rfl sc_Table_init.nd (di_sq (de_call C_sets_of (hr.mono (by decide)) (by rfl) (da_cons (de_var (i := 1)) da_nil))) (blkOk_by (own := [("of", 3)]) (N := n_Table_init) (sc := defScope s_Table_init) (by decide +kernel)) (fun _ _ _ _ _ => (dg_name (i := 3) sc_Table_init.nd)) (fun _ _ _ _ _ => dts_nil) (fun _ _ _ _ _ => (de_var (i := 3))) (fun _ _ _ _ _ => de_int) (by decide)) (de_var (i := 0))) (dss_one (ds_forP PassesOwn.never rfl (dp_ei (de_var (i := 2))) (dg_tup rfl (dgs_cons (dg_name (i := 3) sc_Table_init.nd) (dgs_cons (dg_name (i := 4) sc_Table_init.nd) dgs_nil))) (dss_one (ds_dput hr (de_var (i := 4)) (de_fld T.c_Table (by decide) (de_var (i := 0))) (de_var (i := 3))))))))
/-! takes_of -/
abbrev s_takes_of : Stmt := top 26
abbrev n_takes_of : List Str := ["stand", "room", "name", "takes"]
theorem sc_takes_of : FnScope n_takes_of ["stand", "room"] (defScope s_takes_of) := ⟨rfl, rfl, rfl, by decide +kernel, rfl, by decide +kernel, by decide +kernel⟩
noncomputable def b_takes_of : XS := (xRet (xOp dIx (xLc frozenL (xSq (xFld "Stand" "plan" (xVar 0))) (xgTup 2 (xgsCons (xgName 2) (xgsCons (xgName 3) xgsNil))) (xTst (xOp (eqM false) (xVar 2) (xVar 1))) (xVar 3) [2, 3]) (xC (.int 0))))
noncomputable def f_takes_of : Fn := callB 2 4 b_takes_of
theorem ok_takes_of {P : Program} {w : World} {K : PySem.W.Frag} {mg : Str → Option Value} {base : Heap} {f : Addr} {fd : FuncData} (T : G w K mg) (F : Fun K "takes_of" "takes_of" s_takes_of f fd) : FnOk P w K mg base CX0 1 f fd ["stand", "room"] (spF K mg 2 f_takes_of) :=
  fn_okE (k := 0) (body := b_takes_of) F sc_takes_of rfl rfl rfl rfl fun cdv A outer s H E W hr =>
  (dss_one (ds_ret (de_ix (de_lc (own := [("name", 2), ("takes", 3)]) (W' := E0W) fin_frozen rfl sc_takes_of.nd (di_sq (de_fld T.c_Stand (by decide) (de_var (i := 0)))) (blkOk_by (own := [("name", 2), ("takes", 3)]) (N := n_takes_of) (sc := defScope s_takes_of) (by decide +kernel)) (fun _ _ _ _ _ => (dg_tup rfl (dgs_cons (dg_name (i := 2) sc_takes_of.nd) (dgs_cons (dg_name (i := 3) sc_takes_of.nd) dgs_nil)))) (fun _ _ _ _ _ => (dts_one (dt_cmp (od_eqM hr) (de_var (i := 2)) (de_var (i := 1)) (nomark _)))) (fun _ _ _ _ _ => (de_var (i := 3))) (by decide)) de_int)))
/-! served -/
abbrev s_served : Stmt := top 27
abbrev n_served : List Str := ["stand", "room", "takes", "of", "kind"]
theorem sc_served : FnScope n_served ["stand", "room"] (defScope s_served) := ⟨rfl, rfl, rfl, by decide +kernel, rfl, by decide +kernel, by decide +kernel⟩
noncomputable def b_served : XS := (xSeq (xAsg (xFn 2 f_takes_of (xCons (xVar 0) (xCons (xVar 1) xNil))) (xgName 2)) (xRet (xLc frozenL (xSq (xFld "Stand" "sets" (xVar 0))) (xgName 3) (xTru (xCall bAny (xCons (xLc frozenL (xSq (xVar 3)) (xgName 4) xYes (xOp dIn (xVar 4) (xVar 2)) [4]) xNil))) (xVar 3) [3])))
noncomputable def f_served : Fn := callB 2 5 b_served
theorem ok_served {P : Program} {w : World} {K : PySem.W.Frag} {mg : Str → Option Value} {base : Heap} {f : Addr} {fd : FuncData} (T : G w K mg) (C_takes_of : FnD P w K mg base 1 "takes_of" 2 f_takes_of) (F : Fun K "served" "served" s_served f fd) : FnOk P w K mg base CX0 2 f fd ["stand", "room"] (spF K mg 2 f_served) :=
  fn_okE (k := 1) (body := b_served) F sc_served rfl rfl rfl rfl fun cdv A outer s H E W hr =>
  (dss_cons (ds_set (i := 2) sc_served.nd (de_call C_takes_of (hr.mono (by decide)) (by rfl) (da_cons (de_var (i := 0)) (da_cons (de_var (i := 1)) da_nil)))) (dss_one (ds_ret (de_lc (own := [("of", 3)]) (W' := E0W) fin_frozen rfl sc_served.nd (di_sq (de_fld T.c_Stand (by decide) (de_var (i := 0)))) (blkOk_by (own := [("of", 3)]) (N := n_served) (sc := defScope s_served) (by decide +kernel)) (fun _ _ _ _ _ => (dg_name (i := 3) sc_served.nd)) (fun _ _ _ _ _ => (dts_one (dt_tru (de_callB (cd_any rfl) (by rfl) T.z_any bt_any (da_cons (de_lc (own := [("kind", 4)]) (W' := E0W) fin_frozen rfl sc_served.nd (di_sq (de_var (i := 3))) (blk_in (own := [("kind", 4)]) (N := n_served) (sc0 := defScope s_served) (by decide +kernel) rfl rfl) (fun _ _ _ _ _ => (dg_name (i := 4) sc_served.nd)) (fun _ _ _ _ _ => dts_nil) (fun _ _ _ _ _ => (de_cmp (od_in hr) (de_var (i := 4)) (de_var (i := 2)) (by rfl))) (by decide)) da_nil))))) (fun _ _ _ _ _ => (de_var (i := 3))) (by decide)))))
/-! move_places -/
abbrev s_move_places : Stmt := top 52
abbrev n_move_places : List Str := ["stand", "room", "many", "of"]
theorem sc_move_places : FnScope n_move_places ["stand", "room", "many"] (defScope s_move_places) := ⟨rfl, rfl, rfl, by decide +kernel, rfl, by decide +kernel, by decide +kernel⟩
noncomputable def b_move_places : XS := (xSeq (xAugD (fun i j : Int => i + j) (xFld "Stand" "stock" (xVar 0)) (xVar 1) (xVar 2)) (xFor (xSq (xFn 2 f_served (xCons (xVar 0) (xCons (xVar 1) xNil)))) (xgName 3) (xAugD (fun i j : Int => i + j) (xFld "Stand" "amounts" (xVar 0)) (xVar 3) (xVar 2))))
noncomputable def f_move_places : Fn := callB 3 4 b_move_places
theorem ok_move_places {P : Program} {w : World} {K : PySem.W.Frag} {mg : Str → Option Value} {base : Heap} {f : Addr} {fd : FuncData} (T : G w K mg) (C_served : FnD P w K mg base 2 "served" 2 f_served) (F : Fun K "move_places" "move_places" s_move_places f fd) : FnOk P w K mg base CX0 3 f fd ["stand", "room", "many"] (spF K mg 3 f_move_places) :=
  fn_okE (k := 2) (body := b_move_places) F sc_move_places rfl rfl rfl rfl fun cdv A outer s H E W hr =>
  (dss_cons (ds_augD io_add hr (de_fld T.c_Stand (by decide) (de_var (i := 0))) (de_var (i := 1)) (de_var (i := 2))) (dss_one (ds_for PassesOwn.never rfl (di_sq (de_call C_served (hr.mono (by decide)) (by rfl) (da_cons (de_var (i := 0)) (da_cons (de_var (i := 1)) da_nil)))) (dg_name (i := 3) sc_move_places.nd) (dss_one (ds_augD io_add hr (de_fld T.c_Stand (by decide) (de_var (i := 0))) (de_var (i := 3)) (de_var (i := 2)))))))
/-! put_places -/
abbrev s_put_places : Stmt := top 54
abbrev n_put_places : List Str := ["stand", "row"]
theorem sc_put_places : FnScope n_put_places ["stand", "row"] (defScope s_put_places) := ⟨rfl, rfl, rfl, by decide +kernel, rfl, by decide +kernel, by decide +kernel⟩
noncomputable def b_put_places : XS := (xIfS (xTst (xOp (eqM false) (xOp dIx (xVar 1) (xC (.int 0))) (xC (.str "unlock")))) (xDrop (xFn 3 f_move_places (xCons (xVar 0) (xCons (xOp dIx (xVar 1) (xC (.int 1))) (xCons (xOp dIx (xVar 1) (xC (.int 2))) xNil))))) (xDrop (xFn 3 f_move_places (xCons (xVar 0) (xCons (xOp dIx (xVar 1) (xC (.int 1))) (xCons (xNeg (xC (.int 1))) xNil))))))
noncomputable def f_put_places : Fn := callB 2 2 b_put_places
theorem ok_put_places {P : Program} {w : World} {K : PySem.W.Frag} {mg : Str → Option Value} {base : Heap} {f : Addr} {fd : FuncData} (T : G w K mg) (C_move_places : FnD P w K mg base 3 "move_places" 3 f_move_places) (F : Fun K "put_places" "put_places" s_put_places f fd) : FnOk P w K mg base CX0 4 f fd ["stand", "row"] (spF K mg 2 f_put_places) :=
  fn_okE (k := 3) (body := b_put_places) F sc_put_places rfl rfl rfl rfl fun cdv A outer s H E W hr =>
  (dss_one (ds_if (dt_cmp (od_eqM hr) (de_ix (de_var (i := 1)) de_int) de_str (nomark _)) (dss_one (ds_expr (de_call C_move_places (hr.mono (by decide)) (by rfl) (da_cons (de_var (i := 0)) (da_cons (de_ix (de_var (i := 1)) de_int) (da_cons (de_ix (de_var (i := 1)) de_int) da_nil)))))) (dss_one (ds_expr (de_call C_move_places (hr.mono (by decide)) (by rfl) (da_cons (de_var (i := 0)) (da_cons (de_ix (de_var (i := 1)) de_int) (da_cons (de_neg de_int) da_nil))))))))
/-! put_row -/
noncomputable def tab_put_row : List (Str × Fn) := [("put_places", f_put_places)]
abbrev s_put_row : Stmt := top 60
abbrev n_put_row : List Str := ["stand", "row", "deed"]
theorem sc_put_row : FnScope n_put_row ["stand", "row"] (defScope s_put_row) := ⟨rfl, rfl, rfl, by decide +kernel, rfl, by decide +kernel, by decide +kernel⟩
noncomputable def b_put_row : XS := (xSeq (xAsg (xOp (getG "PUT" tget_PUT) (xC (.fn "PUT")) (xOp dIx (xVar 1) (xC (.int 0)))) (xgName 2)) (xDrop (xCallL 2 2 tab_put_row (xCons (xVar 0) (xCons (xVar 1) xNil)))))
noncomputable def f_put_row : Fn := callB 2 3 b_put_row
theorem ok_put_row {P : Program} {w : World} {K : PySem.W.Frag} {mg : Str → Option Value} {base : Heap} {f : Addr} {fd : FuncData} (T : G w K mg) (K_put_places : FnG P w K mg base 4 "put_places" 2 f_put_places) (F : Fun K "put_row" "put_row" s_put_row f fd) : FnOk P w K mg base CX0 5 f fd ["stand", "row"] (spF K mg 2 f_put_row) :=
  fn_okE (k := 4) (body := b_put_row) F sc_put_row rfl rfl rfl rfl fun cdv A outer s H E W hr =>
  (dss_cons (ds_set (i := 2) sc_put_row.nd (de_getG T.d_PUT (de_glb T.d_PUT (by rfl)) (de_ix (de_var (i := 1)) de_int))) (dss_one (ds_expr (de_callL (i := 2) (tab_ok (k := 4) (by intro p hp; simp only [tab_put_row, List.mem_cons, List.not_mem_nil, or_false] at hp; rcases hp with rfl <;> first | exact K_put_places.up (by decide))) (hr.mono (by decide)) (da_cons (de_var (i := 0)) (da_cons (de_var (i := 1)) da_nil))))))
/-! is_room -/
abbrev s_is_room : Stmt := top 32
abbrev n_is_room : List Str := ["stand", "thing"]
theorem sc_is_room : FnScope n_is_room ["stand", "thing"] (defScope s_is_room) := ⟨rfl, rfl, rfl, by decide +kernel, rfl, by decide +kernel, by decide +kernel⟩
noncomputable def b_is_room : XS := (xRet (xAndV (xCall bIsi (xCons (xVar 1) (xCons (xC (dOf (.ty "str"))) xNil))) (xOp (gdIn false) (xVar 1) (xFld "Stand" "stock" (xVar 0)))))
noncomputable def f_is_room : Fn := callB 2 2 b_is_room
theorem ok_is_room {P : Program} {w : World} {K : PySem.W.Frag} {mg : Str → Option Value} {base : Heap} {f : Addr} {fd : FuncData} (T : G w K mg) (F : Fun K "is_room" "is_room" s_is_room f fd) : FnOk P w K mg base CX0 1 f fd ["stand", "thing"] (spF K mg 2 f_is_room) :=
  fn_okE (k := 0) (body := b_is_room) F sc_is_room rfl rfl rfl rfl fun cdv A outer s H E W hr =>
  (dss_one (ds_ret (de_and (de_callB cd_isi (by rfl) T.z_isinstance bt_isinstance (da_cons (de_var (i := 1)) (da_cons (de_bltn (v := .ty "str") (by rfl) T.z_str bt_str rfl) da_nil))) (de_one (de_cmp (od_gdIn hr) (de_var (i := 1)) (de_fld T.c_Stand (by decide) (de_var (i := 0))) (by rfl))))))
/-! is_whole -/
abbrev s_is_whole : Stmt := top 12
abbrev n_is_whole : List Str := ["thing", "least", "most"]
theorem sc_is_whole : FnScope n_is_whole ["thing", "least", "most"] (defScope s_is_whole) := ⟨rfl, rfl, rfl, by decide +kernel, rfl, by decide +kernel, by decide +kernel⟩
noncomputable def b_is_whole : XS := (xSeq (xIfS (xOr (xNot (xTru (xCall bIsi (xCons (xVar 0) (xCons (xC (dOf (.ty "int"))) xNil))))) (xOr (xTru (xCall bIsi (xCons (xVar 0) (xCons (xC (dOf (.ty "bool"))) xNil)))) (xTst (xOp dLt (xVar 0) (xVar 1))))) (xRet (xC (.bl false))) xNx) (xRet (xOrV (xOp dIsN (xVar 2) (xC .non)) (xOp dLe (xVar 0) (xVar 2)))))
noncomputable def f_is_whole : Fn := callB 3 3 b_is_whole
theorem ok_is_whole {P : Program} {w : World} {K : PySem.W.Frag} {mg : Str → Option Value} {base : Heap} {f : Addr} {fd : FuncData} (T : G w K mg) {dvs : List V} {kws : List (Str × V)} (F : FunD K "is_whole" "is_whole" (defArgs s_is_whole) (defBody s_is_whole) (defScope s_is_whole) dvs kws f fd) : FnOk P w K mg base CX0 1 f fd ["thing", "least", "most"] (spF K mg 3 f_is_whole) :=
  fnD_okE (k := 0) (body := b_is_whole) F sc_is_whole rfl rfl rfl rfl fun cdv A outer s H E W hr =>
  (dss_cons (ds_if (dt_w (dw_or (dt_not (dt_tru (de_callB cd_isi (by rfl) T.z_isinstance bt_isinstance (da_cons (de_var (i := 0)) (da_cons (de_bltn (v := .ty "int") (by rfl) T.z_int bt_int rfl) da_nil))))) (dw_or (dt_tru (de_callB cd_isi (by rfl) T.z_isinstance bt_isinstance (da_cons (de_var (i := 0)) (da_cons (de_bltn (v := .ty "bool") (by rfl) T.z_bool bt_bool rfl) da_nil)))) (dw_or1 (dt_cmp od_lt (de_var (i := 0)) (de_var (i := 1)) (nomark _)))))) (dss_one (ds_ret de_bl)) dss_nil) (dss_one (ds_ret (de_or (de_cmp od_isN (de_var (i := 2)) de_non (nomark _)) (de_one (de_cmp od_le (de_var (i := 0)) (de_var (i := 2)) (nomark _)))))))
/-! can_unlock -/
abbrev s_can_unlock : Stmt := top 37
abbrev n_can_unlock : List Str := ["stand", "parts", "room", "many"]
theorem sc_can_unlock : FnScope n_can_unlock ["stand", "parts"] (defScope s_can_unlock) := ⟨rfl, rfl, rfl, by decide +kernel, rfl, by decide +kernel, by decide +kernel⟩
noncomputable def b_can_unlock : XS := (xSeq (xAsg (xVar 1) (xgLst 2 (xgsCons (xgName 2) (xgsCons (xgName 3) xgsNil)))) (xRet (xAndV (xFn 2 f_is_room (xCons (xVar 0) (xCons (xVar 2) xNil))) (xFnK' 1 2 f_is_whole (xCons (xVar 3) xNil) (xCons (xC (.int 1)) (xCons (xC (dOf (.int 50))) xNil))))))
noncomputable def f_can_unlock : Fn := callB 2 4 b_can_unlock
theorem ok_can_unlock {P : Program} {w : World} {K : PySem.W.Frag} {mg : Str → Option Value} {base : Heap} {f : Addr} {fd : FuncData} (T : G w K mg) (C_is_room : FnD P w K mg base 1 "is_room" 2 f_is_room) (C_is_whole : FnKD P w K mg base 1 "is_whole" 1 ["least", "most"] f_is_whole) (F : Fun K "can_unlock" "can_unlock" s_can_unlock f fd) : FnOk P w K mg base CX0 2 f fd ["stand", "parts"] (spF K mg 2 f_can_unlock) :=
  fn_okE (k := 1) (body := b_can_unlock) F sc_can_unlock rfl rfl rfl rfl fun cdv A outer s H E W hr =>
  (dss_cons (ds_asg (de_var (i := 1)) (dg_lst rfl (dgs_cons (dg_name (i := 2) sc_can_unlock.nd) (dgs_cons (dg_name (i := 3) sc_can_unlock.nd) dgs_nil)))) (dss_one (ds_ret (de_and (de_call C_is_room (hr.mono (by decide)) (by rfl) (da_cons (de_var (i := 0)) (da_cons (de_var (i := 2)) da_nil))) (de_one (de_callKw C_is_whole (hr.mono (by decide)) (by rfl) (da_cons (de_var (i := 3)) da_nil) (dk_cons de_int (dk_cons (de_gl T.g_MOST_AT_ONCE (by rfl)) dk_nil))))))))
/-! over_at -/
abbrev s_over_at : Stmt := top 31
abbrev n_over_at : List Str := ["stand", "of", "held", "person"]
theorem sc_over_at : FnScope n_over_at ["stand", "of"] (defScope s_over_at) := ⟨rfl, rfl, rfl, by decide +kernel, rfl, by decide +kernel, by decide +kernel⟩
noncomputable def b_over_at : XS := (xSeq (xAsg (xLcP frozenL (xPt (xFld "Stand" "people" (xVar 0))) (xgName 3) (xAnd (xTst (xOp dIsN (xOp dIx (xVar 3) (xC (.int 2))) (xC .non))) (xAnd (xTst (xOp (eqM true) (xOp dIx (xVar 3) (xC (.int 3))) (xTup (xCons (xC (.str "yes")) xNil)))) (xTst (xOp dIn (xOp dIx (xVar 3) (xC (.int 1))) (xVar 1))))) (xVar 3) [3]) (xgName 2)) (xRet (xOp dSub (xOp gd (xFld "Stand" "amounts" (xVar 0)) (xVar 1)) (xCall bLen (xCons (xVar 2) xNil)))))
noncomputable def f_over_at : Fn := callB 2 4 b_over_at
theorem ok_over_at {P : Program} {w : World} {K : PySem.W.Frag} {mg : Str → Option Value} {base : Heap} {f : Addr} {fd : FuncData} (T : G w K mg) (F : Fun K "over_at" "over_at" s_over_at f fd) : FnOk P w K mg base CX0 1 f fd ["stand", "of"] (spF K mg 2 f_over_at) :=
  fn_okE (k := 0) (body := b_over_at) F sc_over_at rfl rfl rfl rfl fun cdv A outer s H E W hr =>
  (dss_cons (ds_setLcP (i := 2) (own := [("person", 3)]) (W' := E0W) fin_frozen rfl sc_over_at.nd (dp_ptr (de_fld T.c_Stand (by decide) (de_var (i := 0)))) (blkOk_by (own := [("person", 3)]) (N := n_over_at) (sc := defScope s_over_at) (by decide +kernel)) (fun _ _ _ _ _ => (dg_name (i := 3) sc_over_at.nd)) (fun _ _ _ _ _ => (dts_one (dt_w (dw_and (dt_cmp od_isN (de_ix (de_var (i := 3)) de_int) de_non (nomark _)) (dw_and (dt_cmp (od_neM hr) (de_ix (de_var (i := 3)) de_int) (de_tup (da_cons de_str da_nil)) (nomark _)) (dw_and1 (dt_cmp (od_in hr) (de_ix (de_var (i := 3)) de_int) (de_var (i := 1)) (by rfl)))))))) (fun _ _ _ _ _ => (de_var (i := 3))) (by decide)) (dss_one (ds_ret (de_op od_sub (de_dgetA hr (de_fld T.c_Stand (by decide) (de_var (i := 0))) (de_var (i := 1)) (by intro _ _; rfl)) (de_callB cd_len (by rfl) T.z_len bt_len (da_cons (de_var (i := 2)) da_nil))))))
/-! are_over -/
abbrev s_are_over : Stmt := top 34
abbrev n_are_over : List Str := ["stand", "sets", "of"]
theorem sc_are_over : FnScope n_are_over ["stand", "sets"] (defScope s_are_over) := ⟨rfl, rfl, rfl, by decide +kernel, rfl, by decide +kernel, by decide +kernel⟩
noncomputable def b_are_over : XS := (xRet (xCall bAll (xCons (xLc frozenL (xSq (xVar 1)) (xgName 2) xYes (xOp dGt (xFn 2 f_over_at (xCons (xVar 0) (xCons (xVar 2) xNil))) (xC (.int 0))) [2]) xNil)))
noncomputable def f_are_over : Fn := callB 2 3 b_are_over
theorem ok_are_over {P : Program} {w : World} {K : PySem.W.Frag} {mg : Str → Option Value} {base : Heap} {f : Addr} {fd : FuncData} (T : G w K mg) (C_over_at : FnD P w K mg base 1 "over_at" 2 f_over_at) (F : Fun K "are_over" "are_over" s_are_over f fd) : FnOk P w K mg base CX0 2 f fd ["stand", "sets"] (spF K mg 2 f_are_over) :=
  fn_okE (k := 1) (body := b_are_over) F sc_are_over rfl rfl rfl rfl fun cdv A outer s H E W hr =>
  (dss_one (ds_ret (de_callB (cd_all rfl) (by rfl) T.z_all bt_all (da_cons (de_lc (own := [("of", 2)]) (W' := E0W) fin_frozen rfl sc_are_over.nd (di_sq (de_var (i := 1))) (blkOk_by (own := [("of", 2)]) (N := n_are_over) (sc := defScope s_are_over) (by decide +kernel)) (fun _ _ _ _ _ => (dg_name (i := 2) sc_are_over.nd)) (fun _ _ _ _ _ => dts_nil) (fun _ _ _ _ _ => (de_cmp od_gt (de_call C_over_at (hr.mono (by decide)) (by rfl) (da_cons (de_var (i := 0)) (da_cons (de_var (i := 2)) da_nil))) de_int (nomark _))) (by decide)) da_nil))))
/-! can_lock -/
abbrev s_can_lock : Stmt := top 38
abbrev n_can_lock : List Str := ["stand", "parts", "room"]
theorem sc_can_lock : FnScope n_can_lock ["stand", "parts"] (defScope s_can_lock) := ⟨rfl, rfl, rfl, by decide +kernel, rfl, by decide +kernel, by decide +kernel⟩
noncomputable def b_can_lock : XS := (xSeq (xAsg (xOp dIx (xVar 1) (xC (.int 0))) (xgName 2)) (xRet (xAndV (xFn 2 f_is_room (xCons (xVar 0) (xCons (xVar 2) xNil))) (xAndV (xOp dGt (xOp gd (xFld "Stand" "stock" (xVar 0)) (xVar 2)) (xC (.int 0))) (xFn 2 f_are_over (xCons (xVar 0) (xCons (xFn 2 f_served (xCons (xVar 0) (xCons (xVar 2) xNil))) xNil)))))))
noncomputable def f_can_lock : Fn := callB 2 3 b_can_lock
theorem ok_can_lock {P : Program} {w : World} {K : PySem.W.Frag} {mg : Str → Option Value} {base : Heap} {f : Addr} {fd : FuncData} (T : G w K mg) (C_is_room : FnD P w K mg base 1 "is_room" 2 f_is_room) (C_served : FnD P w K mg base 2 "served" 2 f_served) (C_are_over : FnD P w K mg base 2 "are_over" 2 f_are_over) (F : Fun K "can_lock" "can_lock" s_can_lock f fd) : FnOk P w K mg base CX0 3 f fd ["stand", "parts"] (spF K mg 2 f_can_lock) :=
  fn_okE (k := 2) (body := b_can_lock) F sc_can_lock rfl rfl rfl rfl fun cdv A outer s H E W hr =>
  (dss_cons (ds_set (i := 2) sc_can_lock.nd (de_ix (de_var (i := 1)) de_int)) (dss_one (ds_ret (de_and (de_call C_is_room (hr.mono (by decide)) (by rfl) (da_cons (de_var (i := 0)) (da_cons (de_var (i := 2)) da_nil))) (de_and (de_cmp od_gt (de_dgetA hr (de_fld T.c_Stand (by decide) (de_var (i := 0))) (de_var (i := 2)) (by intro _ _; rfl)) de_int (nomark _)) (de_one (de_call C_are_over (hr.mono (by decide)) (by rfl) (da_cons (de_var (i := 0)) (da_cons (de_call C_served (hr.mono (by decide)) (by rfl) (da_cons (de_var (i := 0)) (da_cons (de_var (i := 2)) da_nil))) da_nil)))))))))
/-! can_stand -/
noncomputable def tab_can_stand : List (Str × Fn) := [("can_unlock", f_can_unlock), ("can_lock", f_can_lock)]
abbrev s_can_stand : Stmt := top 51
abbrev n_can_stand : List Str := ["stand", "row", "word", "parts", "deed"]
theorem sc_can_stand : FnScope n_can_stand ["stand", "row"] (defScope s_can_stand) := ⟨rfl, rfl, rfl, by decide +kernel, rfl, by decide +kernel, by decide +kernel⟩
noncomputable def b_can_stand : XS := (xSeq (xIfS (xOr (xNot (xTru (xCall bIsi (xCons (xVar 1) (xCons (xC (dOf (.ty "tuple"))) xNil))))) (xOr (xTst (xOp dEq (xVar 1) (xTup xNil))) (xOr (xNot (xTru (xCall bIsi (xCons (xOp dIx (xVar 1) (xC (.int 0))) (xCons (xC (dOf (.ty "str"))) xNil))))) (xTst (xOp (inG true "CAN" tin_CAN) (xOp dIx (xVar 1) (xC (.int 0))) (xC (.fn "CAN"))))))) (xRet (xC (.bl false))) xNx) (xSeq (xAsg (xVar 1) (xgStar (xgsCons (xgName 2) (xgsCons (xgName 3) xgsNil)))) (xSeq (xAsg (xOp (getG "CAN" tget_CAN) (xC (.fn "CAN")) (xVar 2)) (xgName 4)) (xRet (xAndV (xOp (eqM false) (xCall bLen (xCons (xVar 3) xNil)) (xOp (getG "COUNTS" tget_COUNTS) (xC (.fn "COUNTS")) (xVar 2))) (xCallL 4 2 tab_can_stand (xCons (xVar 0) (xCons (xVar 3) xNil))))))))
noncomputable def f_can_stand : Fn := callB 2 5 b_can_stand
theorem ok_can_stand {P : Program} {w : World} {K : PySem.W.Frag} {mg : Str → Option Value} {base : Heap} {f : Addr} {fd : FuncData} (T : G w K mg) (K_can_unlock : FnG P w K mg base 2 "can_unlock" 2 f_can_unlock) (K_can_lock : FnG P w K mg base 3 "can_lock" 2 f_can_lock) (F : Fun K "can_stand" "can_stand" s_can_stand f fd) : FnOk P w K mg base CX0 4 f fd ["stand", "row"] (spF K mg 2 f_can_stand) :=
  fn_okE (k := 3) (body := b_can_stand) F sc_can_stand rfl rfl rfl rfl fun cdv A outer s H E W hr =>
  (dss_cons (ds_if (dt_w (dw_or (dt_not (dt_tru (de_callB cd_isi (by rfl) T.z_isinstance bt_isinstance (da_cons (de_var (i := 1)) (da_cons (de_bltn (v := .ty "tuple") (by rfl) T.z_tuple bt_tuple rfl) da_nil))))) (dw_or (dt_cmp (od_eq2 hr) (de_var (i := 1)) (de_tup da_nil) (nomark _)) (dw_or (dt_not (dt_tru (de_callB cd_isi (by rfl) T.z_isinstance bt_isinstance (da_cons (de_ix (de_var (i := 1)) de_int) (da_cons (de_bltn (v := .ty "str") (by rfl) T.z_str bt_str rfl) da_nil))))) (dw_or1 (dt_cmp (od_notInG T.d_CAN) (de_ix (de_var (i := 1)) de_int) (de_glb T.d_CAN (by rfl)) (by rfl))))))) (dss_one (ds_ret de_bl)) dss_nil) (dss_cons (ds_asg (de_var (i := 1)) (dg_star rfl (dgs_cons (dg_name (i := 2) sc_can_stand.nd) (dgs_cons (dg_name (i := 3) sc_can_stand.nd) dgs_nil)))) (dss_cons (ds_set (i := 4) sc_can_stand.nd (de_getG T.d_CAN (de_glb T.d_CAN (by rfl)) (de_var (i := 2)))) (dss_one (ds_ret (de_and (de_cmp (od_eqM hr) (de_callB cd_len (by rfl) T.z_len bt_len (da_cons (de_var (i := 3)) da_nil)) (de_getG T.d_COUNTS (de_glb T.d_COUNTS (by rfl)) (de_var (i := 2))) (nomark _)) (de_one (de_callL (i := 4) (tab_ok (k := 3) (by intro p hp; simp only [tab_can_stand, List.mem_cons, List.not_mem_nil, or_false] at hp; rcases hp with rfl | rfl <;> first | exact K_can_unlock.up (by decide) | exact K_can_lock.up (by decide))) (hr.mono (by decide)) (da_cons (de_var (i := 0)) (da_cons (de_var (i := 3)) da_nil))))))))))
/-! Stand.__init__ -/
abbrev s_Stand_init : Stmt := inClass (top 24) 0
abbrev n_Stand_init : List Str := ["self", "kinds", "plan", "of", "room", "takes"]
theorem sc_Stand_init : FnScope n_Stand_init ["self", "kinds", "plan"] (defScope s_Stand_init) := ⟨rfl, rfl, rfl, by decide +kernel, rfl, by decide +kernel, by decide +kernel⟩
noncomputable def b_Stand_init : XS := (xSeq (xSetF "Stand" "kinds" (xVar 1) (xVar 0)) (xSeq (xSetF "Stand" "plan" (xVar 2) (xVar 0)) (xSeq (xSetF "Stand" "sets" (xFn 1 f_sets_of (xCons (xVar 1) xNil)) (xVar 0)) (xSeq (xSetF "Stand" "amounts" (xDcT (xSq (xFld "Stand" "sets" (xVar 0))) (xgName 3) xYes (xVar 3) (xC (.int 0)) [3]) (xVar 0)) (xSeq (xSetF "Stand" "stock" (xDcK (xSq (xVar 2)) (xgTup 2 (xgsCons (xgName 4) (xgsCons (xgName 5) xgsNil))) xYes (xVar 4) (xC (.int 0)) [4, 5]) (xVar 0)) (xSeq (xSetF "Stand" "people" (xLstM xNil) (xVar 0)) (xSeq (xSetF "Stand" "pieces" (xC (.int 0)) (xVar 0)) (xSetF "Stand" "home" xDict0T (xVar 0)))))))))
noncomputable def f_Stand_init : Fn := callB 3 6 b_Stand_init
theorem ok_Stand_init {P : Program} {w : World} {K : PySem.W.Frag} {mg : Str → Option Value} {base : Heap} {f : Addr} {fd : FuncData} (T : G w K mg) (C_sets_of : FnD P w K mg base 4 "sets_of" 1 f_sets_of) (F : Fun K "__init__" "Stand.__init__" s_Stand_init f fd) : FnOk P w K mg base CX0 5 f fd ["self", "kinds", "plan"] (spF K mg 3 f_Stand_init) :=
  fn_okE (k := 4) (body := b_Stand_init) F sc_Stand_init rfl rfl rfl rfl fun cdv A outer s H E W hr =>
  (dss_cons (ds_setF T.c_Stand (by decide) (de_var (i := 1)) (de_var (i := 0))) (dss_cons (ds_setF T.c_Stand (by decide) (de_var (i := 2)) (de_var (i := 0))) (dss_cons (ds_setF T.c_Stand (by decide) (de_call C_sets_of (hr.mono (by decide)) (by rfl) (da_cons (de_var (i := 1)) da_nil)) (de_var (i := 0))) (dss_cons (ds_setF T.c_Stand (by decide) (de_dcT (own := [("of", 3)]) (W' := E0W) hr rfl sc_Stand_init.nd (di_sq (de_fld T.c_Stand (by decide) (de_var (i := 0)))) (blkOk_by (own := [("of", 3)]) (N := n_Stand_init) (sc := defScope s_Stand_init) (by decide +kernel)) (fun _ _ _ _ _ => (dg_name (i := 3) sc_Stand_init.nd)) (fun _ _ _ _ _ => dts_nil) (fun _ _ _ _ _ => (de_var (i := 3))) (fun _ _ _ _ _ => de_int) (by decide)) (de_var (i := 0))) (dss_cons (ds_setF T.c_Stand (by decide) (de_dcK (own := [("room", 4), ("takes", 5)]) (W' := E0W) hr rfl sc_Stand_init.nd (di_sq (de_var (i := 2))) (blkOk_by (own := [("room", 4), ("takes", 5)]) (N := n_Stand_init) (sc := defScope s_Stand_init) (by decide +kernel)) (fun _ _ _ _ _ => (dg_tup rfl (dgs_cons (dg_name (i := 4) sc_Stand_init.nd) (dgs_cons (dg_name (i := 5) sc_Stand_init.nd) dgs_nil)))) (fun _ _ _ _ _ => dts_nil) (fun _ _ _ _ _ => (de_var (i := 4))) (fun _ _ _ _ _ => de_int) (by decide)) (de_var (i := 0))) (dss_cons (ds_setF T.c_Stand (by decide) (de_lstM da_nil) (de_var (i := 0))) (dss_cons (ds_setF T.c_Stand (by decide) de_int (de_var (i := 0))) (dss_one (ds_setF T.c_Stand (by decide) de_dict0T (de_var (i := 0)))))))))))
/-! stand_of -/
abbrev s_stand_of : Stmt := top 61
abbrev n_stand_of : List Str := ["kinds", "rooms", "rows", "stand", "at", "row", "purse", "of", "room", "takes", "person"]
theorem sc_stand_of : FnScope n_stand_of ["kinds", "rooms", "rows"] (defScope s_stand_of) := ⟨rfl, rfl, rfl, by decide +kernel, rfl, by decide +kernel, by decide +kernel⟩
noncomputable def b_stand_of : XS := (xSeq (xIfS (xNot (xTru (xCall bIsi (xCons (xVar 2) (xCons (xC (dOf (.ty "list"))) xNil))))) (xRaise "NoBook" "at" (xC .non)) xNx) (xSeq (xAsg (xMake "Stand" 2 [] f_Stand_init (xCons (xVar 0) (xCons (xVar 1) xNil))) (xgName 3)) (xSeq (xFor (xEnum (xCons (xVar 2) xNil)) (xgTup 2 (xgsCons (xgName 4) (xgsCons (xgName 5) xgsNil))) (xSeq (xIfS (xNot (xTru (xFn 2 f_can_stand (xCons (xVar 3) (xCons (xVar 5) xNil))))) (xRaise "NoBook" "at" (xVar 4)) xNx) (xDrop (xFn 2 f_put_row (xCons (xVar 3) (xCons (xVar 5) xNil)))))) (xSeq (xAsg (xFzI ["amounts"] (xMake "Table" 2 [] f_Table_init (xCons (xVar 0) (xCons (xLc frozenL (xSq (xFld "Stand" "sets" (xVar 3))) (xgName 7) xYes (xTup (xCons (xVar 7) (xCons (xOp gd (xFld "Stand" "amounts" (xVar 3)) (xVar 7)) xNil))) [7]) xNil)))) (xgName 6)) (xRet (xTup (xCons (xVar 6) (xCons (xLc frozenL (xSq (xVar 1)) (xgTup 2 (xgsCons (xgName 8) (xgsCons (xgName 9) xgsNil))) xYes (xTup (xCons (xVar 8) (xCons (xOp gd (xFld "Stand" "stock" (xVar 3)) (xVar 8)) xNil))) [8, 9]) (xCons (xLcP frozenL (xPt (xFld "Stand" "people" (xVar 3))) (xgName 10) xYes (xCall bTuple (xCons (xVar 10) xNil)) [10]) xNil)))))))))
noncomputable def f_stand_of : Fn := callB 3 11 b_stand_of
theorem ok_stand_of {P : Program} {w : World} {K : PySem.W.Frag} {mg : Str → Option Value} {base : Heap} {f : Addr} {fd : FuncData} (T : G w K mg) (C_mk_Table_2 : MkD P w K mg base 5 "Table" 2 [] f_Table_init) (C_put_row : FnD P w K mg base 5 "put_row" 2 f_put_row) (C_can_stand : FnD P w K mg base 4 "can_stand" 2 f_can_stand) (C_mk_Stand_2 : MkD P w K mg base 5 "Stand" 2 [] f_Stand_init) (Xc_NoBook : XcD P w K mg base 1 "NoBook" "at") (F : Fun K "stand_of" "stand_of" s_stand_of f fd) : FnOk P w K mg base (L2.CX P w) 7 f fd ["kinds", "rooms", "rows"] (spX K mg 3 f_stand_of) :=
  fnX_okE (k := 6) (body := b_stand_of) F sc_stand_of rfl rfl rfl rfl fun cdv A outer s H E W hr tk po =>
  (dss_cons (ds_if (dt_not (dt_tru (de_callB cd_isi (by rfl) T.z_isinstance bt_isinstance (da_cons (de_var (i := 2)) (da_cons (de_bltn (v := .ty "list") (by rfl) T.z_list bt_list rfl) da_nil))))) (dss_one (ds_raise rfl tk Xc_NoBook (hr.mono (by decide)) (by rfl) de_non)) dss_nil) (dss_cons (ds_set (i := 3) sc_stand_of.nd (de_make C_mk_Stand_2 (hr.mono (by decide)) (by rfl) (da_cons (de_var (i := 0)) (da_cons (de_var (i := 1)) da_nil)))) (dss_cons (ds_for po rfl (di_enum (by rfl) T.z_enumerate (da_cons (de_var (i := 2)) da_nil)) (dg_tup rfl (dgs_cons (dg_name (i := 4) sc_stand_of.nd) (dgs_cons (dg_name (i := 5) sc_stand_of.nd) dgs_nil))) (dss_cons (ds_if (dt_not (dt_tru (de_call C_can_stand (hr.mono (by decide)) (by rfl) (da_cons (de_var (i := 3)) (da_cons (de_var (i := 5)) da_nil))))) (dss_one (ds_raise rfl tk Xc_NoBook (hr.mono (by decide)) (by rfl) (de_var (i := 4)))) dss_nil) (dss_one (ds_expr (de_call C_put_row (hr.mono (by decide)) (by rfl) (da_cons (de_var (i := 3)) (da_cons (de_var (i := 5)) da_nil))))))) (dss_cons (ds_set (i := 6) sc_stand_of.nd (de_fzI (fls := ["amounts"]) (de_make C_mk_Table_2 (hr.mono (by decide)) (by rfl) (da_cons (de_var (i := 0)) (da_cons (de_lc (own := [("of", 7)]) (W' := E0W) fin_frozen rfl sc_stand_of.nd (di_sq (de_fld T.c_Stand (by decide) (de_var (i := 3)))) (blkOk_by (own := [("of", 7)]) (N := n_stand_of) (sc := defScope s_stand_of) (by decide +kernel)) (fun _ _ _ _ _ => (dg_name (i := 7) sc_stand_of.nd)) (fun _ _ _ _ _ => dts_nil) (fun _ _ _ _ _ => (de_tup (da_cons (de_var (i := 7)) (da_cons (de_dgetA hr (de_fld T.c_Stand (by decide) (de_var (i := 3))) (de_var (i := 7)) (by intro _ _; rfl)) da_nil)))) (by decide)) da_nil))))) (dss_one (ds_ret (de_tup (da_cons (de_var (i := 6)) (da_cons (de_lc (own := [("room", 8), ("takes", 9)]) (W' := E0W) fin_frozen rfl sc_stand_of.nd (di_sq (de_var (i := 1))) (blkOk_by (own := [("room", 8), ("takes", 9)]) (N := n_stand_of) (sc := defScope s_stand_of) (by decide +kernel)) (fun _ _ _ _ _ => (dg_tup rfl (dgs_cons (dg_name (i := 8) sc_stand_of.nd) (dgs_cons (dg_name (i := 9) sc_stand_of.nd) dgs_nil)))) (fun _ _ _ _ _ => dts_nil) (fun _ _ _ _ _ => (de_tup (da_cons (de_var (i := 8)) (da_cons (de_dgetA hr (de_fld T.c_Stand (by decide) (de_var (i := 3))) (de_var (i := 8)) (by intro _ _; rfl)) da_nil)))) (by decide)) (da_cons (de_lcP (own := [("person", 10)]) (W' := E0W) fin_frozen rfl sc_stand_of.nd (dp_ptr (de_fld T.c_Stand (by decide) (de_var (i := 3)))) (blkOk_by (own := [("person", 10)]) (N := n_stand_of) (sc := defScope s_stand_of) (by decide +kernel)) (fun _ _ _ _ _ => (dg_name (i := 10) sc_stand_of.nd)) (fun _ _ _ _ _ => dts_nil) (fun _ _ _ _ _ => (de_callTy cd_tuple (by rfl) T.z_tuple bt_tuple (da_cons (de_var (i := 10)) da_nil))) (by decide)) da_nil))))))))))
/-! _law_barred -/
abbrev s_law_barred : Stmt := top 70
abbrev n_law_barred : List Str := ["_law_town", "_law_rows", "_law_at", "e", "_law_other"]
theorem sc_law_barred : FnScope n_law_barred ["_law_town", "_law_rows", "_law_at"] (defScope s_law_barred) := ⟨rfl, rfl, rfl, by decide +kernel, rfl, by decide +kernel, by decide +kernel⟩
noncomputable def b_law_barred : XS := (xSeq (xBarred "NoBook" "at" 3 4 2 (xFn 3 f_stand_of (xCons (xOp dIx (xVar 0) (xC (.int 0))) (xCons (xOp dIx (xVar 0) (xC (.int 1))) (xCons (xVar 1) xNil))))) (xRet (xC (.bl false))))
noncomputable def f_law_barred : Fn := callB 3 5 b_law_barred
theorem ok_law_barred {P : Program} {w : World} {K : PySem.W.Frag} {mg : Str → Option Value} {base : Heap} {f : Addr} {fd : FuncData} (T : G w K mg) (C_stand_of : FnDX P w K mg base 7 "stand_of" 3 f_stand_of) (F : Fun K "_law_barred" "_law_barred" s_law_barred f fd) : FnOk P w K mg base CX0 8 f fd ["_law_town", "_law_rows", "_law_at"] (spF K mg 3 f_law_barred) :=
  fn_okE (k := 7) (body := b_law_barred) F sc_law_barred rfl rfl rfl rfl fun cdv A outer s H E W hr =>
  (dss_cons (ds_barred T.xs_NoBook rfl rfl sc_law_barred.nd ⟨by rfl, by decide⟩ (by decide) rfl rfl rfl (by rfl) (Or.inl rfl) (Or.inl rfl) (Or.inl rfl) (Or.inl rfl) (.inl rfl) (by decide) ⟨by rfl, by decide⟩ ⟨by rfl, by decide⟩ ⟨by rfl, by decide⟩ ⟨by rfl, by decide⟩ ⟨by rfl, by decide⟩ ⟨by rfl, by decide⟩ (by rfl) T.z_isinstance (by rfl) T.z_repr (by rfl) T.z_ValueError (fun W pn xe tk => (de_callX tk C_stand_of (hr.mono (by decide)) (by rfl) (da_cons (de_ix (de_var (i := 0)) de_int) (da_cons (de_ix (de_var (i := 0)) de_int) (da_cons (de_var (i := 1)) da_nil)))))) (dss_one (ds_ret de_bl)))
/-! _law_sets -/
abbrev s_law_sets : Stmt := top 66
abbrev n_law_sets : List Str := ["_law_kinds_here", "_law_found", "_law_number", "_law_bits", "_law_of", "_law_power", "_law_sort", "_law_bit", "_law_size"]
theorem sc_law_sets : FnScope n_law_sets ["_law_kinds_here"] (defScope s_law_sets) := ⟨rfl, rfl, rfl, by decide +kernel, rfl, by decide +kernel, by decide +kernel⟩
noncomputable def b_law_sets : XS := (xSeq (xAsg (xLstM xNil) (xgName 1)) (xSeq (xFor (xRng2 (xCons (xC (.int 1)) (xCons (xOp dPow (xC (.int 2)) (xC (.int 5))) xNil))) (xgName 2) (xSeq (xAsg (xLc frozenL (xSq (xTup (xCons (xC (.int 1)) (xCons (xC (.int 2)) (xCons (xC (.int 4)) (xCons (xC (.int 8)) (xCons (xC (.int 16)) xNil))))))) (xgName 5) xYes (xOp dMod (xOp dDiv (xVar 2) (xVar 5)) (xC (.int 2))) [5]) (xgName 3)) (xIfS (xTst (xOp (eqM false) (xCall bSum (xCons (xSl dSl (xVar 3) (xSome (xCall bLen (xCons (xVar 0) xNil))) xNone) xNil)) (xC (.int 0)))) (xSeq (xAsg (xCall bTuple (xCons (xLc frozenL (xZipM (xCons (xVar 0) (xCons (xVar 3) xNil))) (xgTup 2 (xgsCons (xgName 6) (xgsCons (xgName 7) xgsNil))) (xTst (xOp (eqM false) (xVar 7) (xC (.int 1)))) (xVar 6) [6, 7]) xNil)) (xgName 4)) (xDrop (xAppend (xVar 1) (xTup (xCons (xCall bLen (xCons (xVar 4) xNil)) (xCons (xVar 4) xNil)))))) xNx))) (xRet (xLc frozenL (xSq (xCall bSortD (xCons (xVar 1) xNil))) (xgTup 2 (xgsCons (xgName 8) (xgsCons (xgName 4) xgsNil))) xYes (xVar 4) [8, 4]))))
noncomputable def f_law_sets : Fn := callB 1 9 b_law_sets
theorem ok_law_sets {P : Program} {w : World} {K : PySem.W.Frag} {mg : Str → Option Value} {base : Heap} {f : Addr} {fd : FuncData} (T : G w K mg) (F : Fun K "_law_sets" "_law_sets" s_law_sets f fd) : FnOk P w K mg base CX0 1 f fd ["_law_kinds_here"] (spF K mg 1 f_law_sets) :=
  fn_okE (k := 0) (body := b_law_sets) F sc_law_sets rfl rfl rfl rfl fun cdv A outer s H E W hr =>
  (dss_cons (ds_set (i := 1) sc_law_sets.nd (de_lstM da_nil)) (dss_cons (ds_for PassesOwn.never rfl (di_range2 (by rfl) T.z_range (da_cons de_int (da_cons (de_op od_pow de_int de_int) da_nil))) (dg_name (i := 2) sc_law_sets.nd) (dss_cons (ds_setLc (i := 3) (own := [("_law_power", 5)]) (W' := E0W) fin_frozen rfl sc_law_sets.nd (di_sq (de_tup (da_cons de_int (da_cons de_int (da_cons de_int (da_cons de_int (da_cons de_int da_nil))))))) (blkOk_by (own := [("_law_power", 5)]) (N := n_law_sets) (sc := defScope s_law_sets) (by decide +kernel)) (fun _ _ _ _ _ => (dg_name (i := 5) sc_law_sets.nd)) (fun _ _ _ _ _ => dts_nil) (fun _ _ _ _ _ => (de_op od_mod (de_op od_div (de_var (i := 2)) (de_var (i := 5))) de_int)) (by decide)) (dss_one (ds_if (dt_cmp (od_eqM hr) (de_callB (cd_sum rfl) (by rfl) T.z_sum bt_sum (da_cons (de_sl (de_var (i := 3)) (do_some (de_callB cd_len (by rfl) T.z_len bt_len (da_cons (de_var (i := 0)) da_nil))) do_none) da_nil)) de_int (nomark _)) (dss_cons (ds_set (i := 4) sc_law_sets.nd (de_callTy cd_tuple (by rfl) T.z_tuple bt_tuple (da_cons (de_lc (own := [("_law_sort", 6), ("_law_bit", 7)]) (W' := E0W) fin_frozen rfl sc_law_sets.nd (di_zipM (by rfl) T.z_zip (da_cons (de_var (i := 0)) (da_cons (de_var (i := 3)) da_nil))) (blkOk_by (own := [("_law_sort", 6), ("_law_bit", 7)]) (N := n_law_sets) (sc := defScope s_law_sets) (by decide +kernel)) (fun _ _ _ _ _ => (dg_tup rfl (dgs_cons (dg_name (i := 6) sc_law_sets.nd) (dgs_cons (dg_name (i := 7) sc_law_sets.nd) dgs_nil)))) (fun _ _ _ _ _ => (dts_one (dt_cmp (od_eqM hr) (de_var (i := 7)) de_int (nomark _)))) (fun _ _ _ _ _ => (de_var (i := 6))) (by decide)) da_nil))) (dss_one (ds_expr (de_append (de_var (i := 1)) (de_tup (da_cons (de_callB cd_len (by rfl) T.z_len bt_len (da_cons (de_var (i := 4)) da_nil)) (da_cons (de_var (i := 4)) da_nil))))))) dss_nil)))) (dss_one (ds_ret (de_lc (own := [("_law_size", 8), ("_law_of", 4)]) (W' := E0W) fin_frozen rfl sc_law_sets.nd (di_sq (de_callB (cd_sortD hr) (by rfl) T.z_sorted bt_sorted (da_cons (de_var (i := 1)) da_nil))) (blkOk_by (own := [("_law_size", 8), ("_law_of", 4)]) (N := n_law_sets) (sc := defScope s_law_sets) (by decide +kernel)) (fun _ _ _ _ _ => (dg_tup rfl (dgs_cons (dg_name (i := 8) sc_law_sets.nd) (dgs_cons (dg_name (i := 4) sc_law_sets.nd) dgs_nil)))) (fun _ _ _ _ _ => dts_nil) (fun _ _ _ _ _ => (de_var (i := 4))) (by decide))))))
/-! is_rising -/
abbrev s_is_rising : Stmt := top 14
abbrev n_is_rising : List Str := ["things", "one", "other"]
theorem sc_is_rising : FnScope n_is_rising ["things"] (defScope s_is_rising) := ⟨rfl, rfl, rfl, by decide +kernel, rfl, by decide +kernel, by decide +kernel⟩
noncomputable def b_is_rising : XS := (xRet (xCall bAll (xCons (xLc frozenL (xZip (xCons (xVar 0) (xCons (xSl dSl (xVar 0) (xSome (xC (.int 1))) xNone) xNil))) (xgTup 2 (xgsCons (xgName 1) (xgsCons (xgName 2) xgsNil))) xYes (xOp dLt (xVar 1) (xVar 2)) [1, 2]) xNil)))
noncomputable def f_is_rising : Fn := callB 1 3 b_is_rising
theorem ok_is_rising {P : Program} {w : World} {K : PySem.W.Frag} {mg : Str → Option Value} {base : Heap} {f : Addr} {fd : FuncData} (T : G w K mg) (F : Fun K "is_rising" "is_rising" s_is_rising f fd) : FnOk P w K mg base CX0 1 f fd ["things"] (spF K mg 1 f_is_rising) :=
  fn_okE (k := 0) (body := b_is_rising) F sc_is_rising rfl rfl rfl rfl fun cdv A outer s H E W hr =>
  (dss_one (ds_ret (de_callB (cd_all rfl) (by rfl) T.z_all bt_all (da_cons (de_lc (own := [("one", 1), ("other", 2)]) (W' := E0W) fin_frozen rfl sc_is_rising.nd (di_zip (by rfl) T.z_zip (da_cons (de_var (i := 0)) (da_cons (de_sl (de_var (i := 0)) (do_some de_int) do_none) da_nil))) (blkOk_by (own := [("one", 1), ("other", 2)]) (N := n_is_rising) (sc := defScope s_is_rising) (by decide +kernel)) (fun _ _ _ _ _ => (dg_tup rfl (dgs_cons (dg_name (i := 1) sc_is_rising.nd) (dgs_cons (dg_name (i := 2) sc_is_rising.nd) dgs_nil)))) (fun _ _ _ _ _ => dts_nil) (fun _ _ _ _ _ => (de_cmp od_lt (de_var (i := 1)) (de_var (i := 2)) (nomark _))) (by decide)) da_nil))))
/-! is_set -/
abbrev s_is_set : Stmt := top 15
abbrev n_is_set : List Str := ["kinds", "thing", "kind"]
theorem sc_is_set : FnScope n_is_set ["kinds", "thing"] (defScope s_is_set) := ⟨rfl, rfl, rfl, by decide +kernel, rfl, by decide +kernel, by decide +kernel⟩
noncomputable def b_is_set : XS := (xSeq (xIfS (xOr (xNot (xTru (xCall bIsi (xCons (xVar 1) (xCons (xC (dOf (.ty "tuple"))) xNil))))) (xTst (xOp (eqM false) (xCall bLen (xCons (xVar 1) xNil)) (xC (.int 0))))) (xRet (xC (.bl false))) xNx) (xRet (xAndV (xCall bAll (xCons (xLc frozenL (xSq (xVar 1)) (xgName 2) xYes (xAndV (xCall bIsi (xCons (xVar 2) (xCons (xC (dOf (.ty "str"))) xNil))) (xOp dIn (xVar 2) (xVar 0))) [2]) xNil)) (xFn 1 f_is_rising (xCons (xVar 1) xNil)))))
noncomputable def f_is_set : Fn := callB 2 3 b_is_set
theorem ok_is_set {P : Program} {w : World} {K : PySem.W.Frag} {mg : Str → Option Value} {base : Heap} {f : Addr} {fd : FuncData} (T : G w K mg) (C_is_rising : FnD P w K mg base 1 "is_rising" 1 f_is_rising) (F : Fun K "is_set" "is_set" s_is_set f fd) : FnOk P w K mg base CX0 2 f fd ["kinds", "thing"] (spF K mg 2 f_is_set) :=
  fn_okE (k := 1) (body := b_is_set) F sc_is_set rfl rfl rfl rfl fun cdv A outer s H E W hr =>
  (dss_cons (ds_if (dt_w (dw_or (dt_not (dt_tru (de_callB cd_isi (by rfl) T.z_isinstance bt_isinstance (da_cons (de_var (i := 1)) (da_cons (de_bltn (v := .ty "tuple") (by rfl) T.z_tuple bt_tuple rfl) da_nil))))) (dw_or1 (dt_cmp (od_eqM hr) (de_callB cd_len (by rfl) T.z_len bt_len (da_cons (de_var (i := 1)) da_nil)) de_int (nomark _))))) (dss_one (ds_ret de_bl)) dss_nil) (dss_one (ds_ret (de_and (de_callB (cd_all rfl) (by rfl) T.z_all bt_all (da_cons (de_lc (own := [("kind", 2)]) (W' := E0W) fin_frozen rfl sc_is_set.nd (di_sq (de_var (i := 1))) (blkOk_by (own := [("kind", 2)]) (N := n_is_set) (sc := defScope s_is_set) (by decide +kernel)) (fun _ _ _ _ _ => (dg_name (i := 2) sc_is_set.nd)) (fun _ _ _ _ _ => dts_nil) (fun _ _ _ _ _ => (de_and (de_callB cd_isi (by rfl) T.z_isinstance bt_isinstance (da_cons (de_var (i := 2)) (da_cons (de_bltn (v := .ty "str") (by rfl) T.z_str bt_str rfl) da_nil))) (de_one (de_cmp (od_in hr) (de_var (i := 2)) (de_var (i := 0)) (by rfl))))) (by decide)) da_nil)) (de_one (de_call C_is_rising (hr.mono (by decide)) (by rfl) (da_cons (de_var (i := 1)) da_nil)))))))
/-! Table.amount -/
abbrev s_Table_amount : Stmt := inClass (top 19) 5
abbrev n_Table_amount : List Str := ["self", "of"]
theorem sc_Table_amount : FnScope n_Table_amount ["self", "of"] (defScope s_Table_amount) := ⟨rfl, rfl, rfl, by decide +kernel, rfl, by decide +kernel, by decide +kernel⟩
noncomputable def b_Table_amount : XS := (xSeq (xIfS (xNot (xTru (xFn 2 f_is_set (xCons (xFld "Table" "kinds" (xVar 0)) (xCons (xVar 1) xNil))))) xNv xNx) (xRet (xOp gd (xFld "Table" "amounts" (xVar 0)) (xVar 1))))
noncomputable def f_Table_amount : Fn := callB 2 2 b_Table_amount
theorem ok_Table_amount {P : Program} {w : World} {K : PySem.W.Frag} {mg : Str → Option Value} {base : Heap} {f : Addr} {fd : FuncData} (T : G w K mg) (C_is_set : FnD P w K mg base 2 "is_set" 2 f_is_set) (F : Fun K "amount" "Table.amount" s_Table_amount f fd) : FnOk P w K mg base CX0 3 f fd ["self", "of"] (spF K mg 2 f_Table_amount) :=
  fn_okE (k := 2) (body := b_Table_amount) F sc_Table_amount rfl rfl rfl rfl fun cdv A outer s H E W hr =>
  (dss_cons (ds_if (dt_not (dt_tru (de_call C_is_set (hr.mono (by decide)) (by rfl) (da_cons (de_fld T.c_Table (by decide) (de_var (i := 0))) (da_cons (de_var (i := 1)) da_nil))))) (dss_one ds_never) dss_nil) (dss_one (ds_ret (de_dgetA hr (de_fld T.c_Table (by decide) (de_var (i := 0))) (de_var (i := 1)) (by intro _ _; rfl)))))
/-! _law_share -/
abbrev s_law_share : Stmt := top 68
abbrev n_law_share : List Str := ["_law_one", "_law_other", "_law_thing"]
theorem sc_law_share : FnScope n_law_share ["_law_one", "_law_other"] (defScope s_law_share) := ⟨rfl, rfl, rfl, by decide +kernel, rfl, by decide +kernel, by decide +kernel⟩
noncomputable def b_law_share : XS := (xRet (xCall bAny (xCons (xLc frozenL (xSq (xVar 0)) (xgName 2) xYes (xOp dIn (xVar 2) (xVar 1)) [2]) xNil)))
noncomputable def f_law_share : Fn := callB 2 3 b_law_share
theorem ok_law_share {P : Program} {w : World} {K : PySem.W.Frag} {mg : Str → Option Value} {base : Heap} {f : Addr} {fd : FuncData} (T : G w K mg) (F : Fun K "_law_share" "_law_share" s_law_share f fd) : FnOk P w K mg base CX0 1 f fd ["_law_one", "_law_other"] (spF K mg 2 f_law_share) :=
  fn_okE (k := 0) (body := b_law_share) F sc_law_share rfl rfl rfl rfl fun cdv A outer s H E W hr =>
  (dss_one (ds_ret (de_callB (cd_any rfl) (by rfl) T.z_any bt_any (da_cons (de_lc (own := [("_law_thing", 2)]) (W' := E0W) fin_frozen rfl sc_law_share.nd (di_sq (de_var (i := 0))) (blkOk_by (own := [("_law_thing", 2)]) (N := n_law_share) (sc := defScope s_law_share) (by decide +kernel)) (fun _ _ _ _ _ => (dg_name (i := 2) sc_law_share.nd)) (fun _ _ _ _ _ => dts_nil) (fun _ _ _ _ _ => (de_cmp (od_in hr) (de_var (i := 2)) (de_var (i := 1)) (by rfl))) (by decide)) da_nil))))
/-! _law_right -/
abbrev s_law_right : Stmt := top 73
abbrev n_law_right : List Str := ["_law_town", "_law_rows", "_law_stock", "_law_handed", "_law_told", "_law_keys", "_law_of", "_law_here", "_law_room", "_law_takes"]
theorem sc_law_right : FnScope n_law_right ["_law_town", "_law_rows", "_law_stock"] (defScope s_law_right) := ⟨rfl, rfl, rfl, by decide +kernel, rfl, by decide +kernel, by decide +kernel⟩
noncomputable def b_law_right : XS := (xSeq (xAsg (xCall bList (xCons (xVar 1) xNil)) (xgName 3)) (xSeq (xAsg (xFnC 3 f_stand_of (xCons (xOp dIx (xVar 0) (xC (.int 0))) (xCons (xOp dIx (xVar 0) (xC (.int 1))) (xCons (xVar 3) xNil)))) (xgName 4)) (xSeq (xAsg (xLc frozenL (xSq (xOp dIx (xVar 0) (xC (.int 1)))) (xgTup 2 (xgsCons (xgName 8) (xgsCons (xgName 9) xgsNil))) xYes (xTup (xCons (xVar 8) (xCons (xOp gd (xVar 2) (xVar 8)) xNil))) [8, 9]) (xgName 5)) (xSeq (xIfS (xOr (xTst (xOp (eqM true) (xVar 3) (xVar 1))) (xOr (xTst (xOp (eqM true) (xOp dIx (xVar 4) (xC (.int 1))) (xVar 5))) (xTst (xOp (eqM true) (xOp dIx (xVar 4) (xC (.int 2))) (xLst xNil))))) (xRet (xC (.bl false))) xNx) (xSeq (xFor (xSq (xFn 1 f_law_sets (xCons (xOp dIx (xVar 0) (xC (.int 0))) xNil))) (xgName 6) (xSeq (xAsg (xCall bSum (xCons (xLc frozenL (xSq (xOp dIx (xVar 0) (xC (.int 1)))) (xgTup 2 (xgsCons (xgName 8) (xgsCons (xgName 9) xgsNil))) (xTru (xFn 2 f_law_share (xCons (xVar 9) (xCons (xVar 6) xNil)))) (xOp gd (xVar 2) (xVar 8)) [8, 9]) xNil)) (xgName 7)) (xIfS (xTst (xOp (eqM true) (xMeth "Table" "amount" 2 f_Table_amount (xOp dIx (xVar 4) (xC (.int 0))) (xCons (xVar 6) xNil)) (xVar 7))) (xRet (xC (.bl false))) xNx))) (xRet (xC (.bl true))))))))
noncomputable def f_law_right : Fn := callB 3 10 b_law_right
theorem ok_law_right {P : Program} {w : World} {K : PySem.W.Frag} {mg : Str → Option Value} {base : Heap} {f : Addr} {fd : FuncData} (T : G w K mg) (C_law_sets : FnD P w K mg base 1 "_law_sets" 1 f_law_sets) (C_Table_amount : MtD P w K mg base 3 "Table" "amount" 2 f_Table_amount) (C_law_share : FnD P w K mg base 1 "_law_share" 2 f_law_share) (C_stand_of : FnDX P w K mg base 7 "stand_of" 3 f_stand_of) (F : Fun K "_law_right" "_law_right" s_law_right f fd) : FnOk P w K mg base CX0 8 f fd ["_law_town", "_law_rows", "_law_stock"] (spF K mg 3 f_law_right) :=
  fn_okE (k := 7) (body := b_law_right) F sc_law_right rfl rfl rfl rfl fun cdv A outer s H E W hr =>
  (dss_cons (ds_set (i := 3) sc_law_right.nd (de_callTy cd_list (by rfl) T.z_list bt_list (da_cons (de_var (i := 1)) da_nil))) (dss_cons (ds_set (i := 4) sc_law_right.nd (de_callXn C_stand_of (hr.mono (by decide)) (by rfl) (da_cons (de_ix (de_var (i := 0)) de_int) (da_cons (de_ix (de_var (i := 0)) de_int) (da_cons (de_var (i := 3)) da_nil))))) (dss_cons (ds_setLc (i := 5) (own := [("_law_room", 8), ("_law_takes", 9)]) (W' := E0W) fin_frozen rfl sc_law_right.nd (di_sq (de_ix (de_var (i := 0)) de_int)) (blkOk_by (own := [("_law_room", 8), ("_law_takes", 9)]) (N := n_law_right) (sc := defScope s_law_right) (by decide +kernel)) (fun _ _ _ _ _ => (dg_tup rfl (dgs_cons (dg_name (i := 8) sc_law_right.nd) (dgs_cons (dg_name (i := 9) sc_law_right.nd) dgs_nil)))) (fun _ _ _ _ _ => dts_nil) (fun _ _ _ _ _ => (de_tup (da_cons (de_var (i := 8)) (da_cons (de_dgetA hr (de_var (i := 2)) (de_var (i := 8)) (by intro _ _; rfl)) da_nil)))) (by decide)) (dss_cons (ds_if (dt_w (dw_or (dt_cmp (od_neM hr) (de_var (i := 3)) (de_var (i := 1)) (nomark _)) (dw_or (dt_cmp (od_neM hr) (de_ix (de_var (i := 4)) de_int) (de_var (i := 5)) (nomark _)) (dw_or1 (dt_cmp (od_neM hr) (de_ix (de_var (i := 4)) de_int) (de_lst da_nil) (nomark _)))))) (dss_one (ds_ret de_bl)) dss_nil) (dss_cons (ds_for PassesOwn.never rfl (di_sq (de_call C_law_sets (hr.mono (by decide)) (by rfl) (da_cons (de_ix (de_var (i := 0)) de_int) da_nil))) (dg_name (i := 6) sc_law_right.nd) (dss_cons (ds_set (i := 7) sc_law_right.nd (de_callB (cd_sum rfl) (by rfl) T.z_sum bt_sum (da_cons (de_lc (own := [("_law_room", 8), ("_law_takes", 9)]) (W' := E0W) fin_frozen rfl sc_law_right.nd (di_sq (de_ix (de_var (i := 0)) de_int)) (blkOk_by (own := [("_law_room", 8), ("_law_takes", 9)]) (N := n_law_right) (sc := defScope s_law_right) (by decide +kernel)) (fun _ _ _ _ _ => (dg_tup rfl (dgs_cons (dg_name (i := 8) sc_law_right.nd) (dgs_cons (dg_name (i := 9) sc_law_right.nd) dgs_nil)))) (fun _ _ _ _ _ => (dts_one (dt_tru (de_call C_law_share (hr.mono (by decide)) (by rfl) (da_cons (de_var (i := 9)) (da_cons (de_var (i := 6)) da_nil)))))) (fun _ _ _ _ _ => (de_dgetA hr (de_var (i := 2)) (de_var (i := 8)) (by intro _ _; rfl))) (by decide)) da_nil))) (dss_one (ds_if (dt_cmp (od_neM hr) (de_meth C_Table_amount (hr.mono (by decide)) (de_ix (de_var (i := 4)) de_int) (da_cons (de_var (i := 6)) da_nil)) (de_var (i := 7)) (nomark _)) (dss_one (ds_ret de_bl)) dss_nil)))) (dss_one (ds_ret de_bl)))))))
/-! _law_odd_row -/
abbrev s_law_odd_row : Stmt := top 72
abbrev n_law_odd_row : List Str := ["_law_bag_here", "_law_room", "_law_some"]
theorem sc_law_odd_row : FnScope n_law_odd_row ["_law_bag_here", "_law_room"] (defScope s_law_odd_row) := ⟨rfl, rfl, rfl, by decide +kernel, rfl, by decide +kernel, by decide +kernel⟩
noncomputable def b_law_odd_row : XS := (xSeq (xAsg (xLst (xCons (xTup (xCons (xC (.str "unlock")) (xCons (xVar 1) (xCons (xC (.int 0)) xNil)))) (xCons (xTup (xCons (xC (.str "unlock")) (xCons (xVar 1) (xCons (xC (.int 51)) xNil)))) (xCons (xTup (xCons (xC (.str "unlock")) (xCons (xVar 1) (xCons (xC (.bl true)) xNil)))) (xCons (xTup (xCons (xC (.str "unlock")) (xCons (xVar 1) (xCons (xC (.str "1")) xNil)))) (xCons (xTup (xCons (xC (.str "unlock")) (xCons (xVar 1) xNil))) xNil)))))) (xgName 2)) (xSeq (xAsg (xOp dAdd (xVar 2) (xLst (xCons (xTup (xCons (xC (.str "unlock")) (xCons (xVar 1) (xCons (xC (.int 1)) (xCons (xC (.int 1)) xNil))))) (xCons (xTup (xCons (xC (.str "unlock")) (xCons (xVar 1) (xCons (xNeg (xC (.int 1))) xNil)))) (xCons (xTup (xCons (xC (.str "unlock")) (xCons (xOp dAdd (xVar 1) (xC (.str "x"))) (xCons (xC (.int 1)) xNil)))) (xCons (xTup (xCons (xC (.str "unlock")) (xCons (xC (.str "")) (xCons (xC (.int 1)) xNil)))) xNil)))))) (xgName 2)) (xSeq (xAsg (xOp dAdd (xVar 2) (xLst (xCons (xTup (xCons (xC (.str "lock")) xNil)) (xCons (xTup (xCons (xC (.str "lock")) (xCons (xVar 1) (xCons (xC (.int 1)) xNil)))) (xCons (xTup (xCons (xC (.str "lock")) (xCons (xC .non) xNil))) (xCons (xTup (xCons (xC (.str "lock")) (xCons (xOp dAdd (xVar 1) (xC (.str "x"))) xNil))) (xCons (xTup (xCons (xC (.str "Lock")) (xCons (xVar 1) xNil))) (xCons (xLst (xCons (xC (.str "lock")) (xCons (xVar 1) xNil))) xNil)))))))) (xgName 2)) (xSeq (xAsg (xOp dAdd (xVar 2) (xLst (xCons (xTup (xCons (xC (.str "unlock")) (xCons (xLst (xCons (xVar 1) xNil)) (xCons (xC (.int 1)) xNil)))) (xCons (xTup (xCons (xC (.str "unlock")) (xCons (xC (.int 1)) (xCons (xVar 1) xNil)))) (xCons (xTup (xCons (xC (.str "lock")) (xCons (xTup (xCons (xVar 1) xNil)) xNil))) (xCons (xTup xNil) (xCons (xOp dAdd (xC (.str "lock ")) (xVar 1)) (xCons (xC .non) xNil)))))))) (xgName 2)) (xRet (xOp dIx (xVar 2) (xFn 2 f_law_take (xCons (xVar 0) (xCons (xC (.int 21)) xNil)))))))))
noncomputable def f_law_odd_row : Fn := callB 2 3 b_law_odd_row
theorem ok_law_odd_row {P : Program} {w : World} {K : PySem.W.Frag} {mg : Str → Option Value} {base : Heap} {f : Addr} {fd : FuncData} (T : G w K mg) (C_law_take : FnD P w K mg base 1 "_law_take" 2 f_law_take) (F : Fun K "_law_odd_row" "_law_odd_row" s_law_odd_row f fd) : FnOk P w K mg base CX0 2 f fd ["_law_bag_here", "_law_room"] (spF K mg 2 f_law_odd_row) :=
  fn_okE (k := 1) (body := b_law_odd_row) F sc_law_odd_row rfl rfl rfl rfl fun cdv A outer s H E W hr =>
  (dss_cons (ds_set (i := 2) sc_law_odd_row.nd (de_lst (da_cons (de_tup (da_cons de_str (da_cons (de_var (i := 1)) (da_cons de_int da_nil)))) (da_cons (de_tup (da_cons de_str (da_cons (de_var (i := 1)) (da_cons de_int da_nil)))) (da_cons (de_tup (da_cons de_str (da_cons (de_var (i := 1)) (da_cons de_bl da_nil)))) (da_cons (de_tup (da_cons de_str (da_cons (de_var (i := 1)) (da_cons de_str da_nil)))) (da_cons (de_tup (da_cons de_str (da_cons (de_var (i := 1)) da_nil))) da_nil))))))) (dss_cons (ds_set (i := 2) sc_law_odd_row.nd (de_op od_add (de_var (i := 2)) (de_lst (da_cons (de_tup (da_cons de_str (da_cons (de_var (i := 1)) (da_cons de_int (da_cons de_int da_nil))))) (da_cons (de_tup (da_cons de_str (da_cons (de_var (i := 1)) (da_cons (de_neg de_int) da_nil)))) (da_cons (de_tup (da_cons de_str (da_cons (de_op od_add (de_var (i := 1)) de_str) (da_cons de_int da_nil)))) (da_cons (de_tup (da_cons de_str (da_cons de_str (da_cons de_int da_nil)))) da_nil))))))) (dss_cons (ds_set (i := 2) sc_law_odd_row.nd (de_op od_add (de_var (i := 2)) (de_lst (da_cons (de_tup (da_cons de_str da_nil)) (da_cons (de_tup (da_cons de_str (da_cons (de_var (i := 1)) (da_cons de_int da_nil)))) (da_cons (de_tup (da_cons de_str (da_cons de_non da_nil))) (da_cons (de_tup (da_cons de_str (da_cons (de_op od_add (de_var (i := 1)) de_str) da_nil))) (da_cons (de_tup (da_cons de_str (da_cons (de_var (i := 1)) da_nil))) (da_cons (de_lst (da_cons de_str (da_cons (de_var (i := 1)) da_nil))) da_nil))))))))) (dss_cons (ds_set (i := 2) sc_law_odd_row.nd (de_op od_add (de_var (i := 2)) (de_lst (da_cons (de_tup (da_cons de_str (da_cons (de_lst (da_cons (de_var (i := 1)) da_nil)) (da_cons de_int da_nil)))) (da_cons (de_tup (da_cons de_str (da_cons de_int (da_cons (de_var (i := 1)) da_nil)))) (da_cons (de_tup (da_cons de_str (da_cons (de_tup (da_cons (de_var (i := 1)) da_nil)) da_nil))) (da_cons (de_tup da_nil) (da_cons (de_op od_add de_str (de_var (i := 1))) (da_cons de_non da_nil))))))))) (dss_one (ds_ret (de_ix (de_var (i := 2)) (de_call C_law_take (hr.mono (by decide)) (by rfl) (da_cons (de_var (i := 0)) (da_cons de_int da_nil))))))))))
/-! _law_names -/
abbrev s_law_names : Stmt := top 65
abbrev n_law_names : List Str := ["_law_bag_here", "_law_often", "_law_letters", "_law_ahead", "_law_behind", "_law_first", "_law_k"]
theorem sc_law_names : FnScope n_law_names ["_law_bag_here", "_law_often"] (defScope s_law_names) := ⟨rfl, rfl, rfl, by decide +kernel, rfl, by decide +kernel, by decide +kernel⟩
noncomputable def b_law_names : XS := (xSeq (xAsg (xC (.str "abcdefghijklmnopqrstuvwxyz")) (xgName 2)) (xSeq (xAsg (xJoin (xC (.str "")) (xLc frozenL (xRng (xCons (xFn 2 f_law_take (xCons (xVar 0) (xCons (xC (.int 5)) xNil))) xNil)) (xgName 6) xYes (xOp dIx (xVar 2) (xFn 2 f_law_take (xCons (xVar 0) (xCons (xC (.int 26)) xNil)))) [6])) (xgName 3)) (xSeq (xAsg (xJoin (xC (.str "")) (xLc frozenL (xRng (xCons (xFn 2 f_law_take (xCons (xVar 0) (xCons (xC (.int 4)) xNil))) xNil)) (xgName 6) xYes (xOp dIx (xVar 2) (xFn 2 f_law_take (xCons (xVar 0) (xCons (xC (.int 26)) xNil)))) [6])) (xgName 4)) (xSeq (xAsg (xFn 2 f_law_take (xCons (xVar 0) (xCons (xC (.int 26)) xNil))) (xgName 5)) (xRet (xCall bSorted (xCons (xLc frozenL (xRng (xCons (xVar 1) xNil)) (xgName 6) xYes (xOp dAdd (xOp dAdd (xVar 3) (xOp dIx (xVar 2) (xOp dMod (xOp dAdd (xVar 5) (xOp dMul (xC (.int 5)) (xVar 6))) (xC (.int 26))))) (xSl dSl (xVar 4) xNone (xSome (xOp dMod (xVar 6) (xC (.int 4)))))) [6]) xNil)))))))
noncomputable def f_law_names : Fn := callB 2 7 b_law_names
theorem ok_law_names {P : Program} {w : World} {K : PySem.W.Frag} {mg : Str → Option Value} {base : Heap} {f : Addr} {fd : FuncData} (T : G w K mg) (C_law_take : FnD P w K mg base 1 "_law_take" 2 f_law_take) (F : Fun K "_law_names" "_law_names" s_law_names f fd) : FnOk P w K mg base CX0 2 f fd ["_law_bag_here", "_law_often"] (spF K mg 2 f_law_names) :=
  fn_okE (k := 1) (body := b_law_names) F sc_law_names rfl rfl rfl rfl fun cdv A outer s H E W hr =>
  (dss_cons (ds_set (i := 2) sc_law_names.nd de_str) (dss_cons (ds_set (i := 3) sc_law_names.nd (de_join de_str (de_lc (own := [("_law_k", 6)]) (W' := E0W) fin_frozen rfl sc_law_names.nd (di_range1 (by rfl) T.z_range (da_cons (de_call C_law_take (hr.mono (by decide)) (by rfl) (da_cons (de_var (i := 0)) (da_cons de_int da_nil))) da_nil)) (blkOk_by (own := [("_law_k", 6)]) (N := n_law_names) (sc := defScope s_law_names) (by decide +kernel)) (fun _ _ _ _ _ => (dg_name (i := 6) sc_law_names.nd)) (fun _ _ _ _ _ => dts_nil) (fun _ _ _ _ _ => (de_ix (de_var (i := 2)) (de_call C_law_take (hr.mono (by decide)) (by rfl) (da_cons (de_var (i := 0)) (da_cons de_int da_nil))))) (by decide)))) (dss_cons (ds_set (i := 4) sc_law_names.nd (de_join de_str (de_lc (own := [("_law_k", 6)]) (W' := E0W) fin_frozen rfl sc_law_names.nd (di_range1 (by rfl) T.z_range (da_cons (de_call C_law_take (hr.mono (by decide)) (by rfl) (da_cons (de_var (i := 0)) (da_cons de_int da_nil))) da_nil)) (blkOk_by (own := [("_law_k", 6)]) (N := n_law_names) (sc := defScope s_law_names) (by decide +kernel)) (fun _ _ _ _ _ => (dg_name (i := 6) sc_law_names.nd)) (fun _ _ _ _ _ => dts_nil) (fun _ _ _ _ _ => (de_ix (de_var (i := 2)) (de_call C_law_take (hr.mono (by decide)) (by rfl) (da_cons (de_var (i := 0)) (da_cons de_int da_nil))))) (by decide)))) (dss_cons (ds_set (i := 5) sc_law_names.nd (de_call C_law_take (hr.mono (by decide)) (by rfl) (da_cons (de_var (i := 0)) (da_cons de_int da_nil)))) (dss_one (ds_ret (de_callB cd_sorted (by rfl) T.z_sorted bt_sorted (da_cons (de_lc (own := [("_law_k", 6)]) (W' := E0W) fin_frozen rfl sc_law_names.nd (di_range1 (by rfl) T.z_range (da_cons (de_var (i := 1)) da_nil)) (blkOk_by (own := [("_law_k", 6)]) (N := n_law_names) (sc := defScope s_law_names) (by decide +kernel)) (fun _ _ _ _ _ => (dg_name (i := 6) sc_law_names.nd)) (fun _ _ _ _ _ => dts_nil) (fun _ _ _ _ _ => (de_op od_add (de_op od_add (de_var (i := 3)) (de_ix (de_var (i := 2)) (de_op od_mod (de_op od_add (de_var (i := 5)) (de_op od_mul de_int (de_var (i := 6)))) de_int))) (de_sl (de_var (i := 4)) do_none (do_some (de_op od_mod (de_var (i := 6)) de_int))))) (by decide)) da_nil))))))))
/-! _law_rooms -/
abbrev s_law_rooms : Stmt := top 67
abbrev n_law_rooms : List Str := ["_law_bag_here", "_law_kinds_here", "_law_most", "_law_sets_here", "_law_names_here", "_law_name"]
theorem sc_law_rooms : FnScope n_law_rooms ["_law_bag_here", "_law_kinds_here", "_law_most"] (defScope s_law_rooms) := ⟨rfl, rfl, rfl, by decide +kernel, rfl, by decide +kernel, by decide +kernel⟩
noncomputable def b_law_rooms : XS := (xSeq (xAsg (xFn 1 f_law_sets (xCons (xVar 1) xNil)) (xgName 3)) (xSeq (xAsg (xFn 2 f_law_names (xCons (xVar 0) (xCons (xOp dAdd (xC (.int 1)) (xFn 2 f_law_take (xCons (xVar 0) (xCons (xVar 2) xNil)))) xNil))) (xgName 4)) (xRet (xCall bTuple (xCons (xLc frozenL (xSq (xVar 4)) (xgName 5) xYes (xTup (xCons (xVar 5) (xCons (xOp dIx (xVar 3) (xFn 2 f_law_take (xCons (xVar 0) (xCons (xCall bLen (xCons (xVar 3) xNil)) xNil)))) xNil))) [5]) xNil)))))
noncomputable def f_law_rooms : Fn := callB 3 6 b_law_rooms
theorem ok_law_rooms {P : Program} {w : World} {K : PySem.W.Frag} {mg : Str → Option Value} {base : Heap} {f : Addr} {fd : FuncData} (T : G w K mg) (C_law_take : FnD P w K mg base 1 "_law_take" 2 f_law_take) (C_law_names : FnD P w K mg base 2 "_law_names" 2 f_law_names) (C_law_sets : FnD P w K mg base 1 "_law_sets" 1 f_law_sets) (F : Fun K "_law_rooms" "_law_rooms" s_law_rooms f fd) : FnOk P w K mg base CX0 3 f fd ["_law_bag_here", "_law_kinds_here", "_law_most"] (spF K mg 3 f_law_rooms) :=
  fn_okE (k := 2) (body := b_law_rooms) F sc_law_rooms rfl rfl rfl rfl fun cdv A outer s H E W hr =>
  (dss_cons (ds_set (i := 3) sc_law_rooms.nd (de_call C_law_sets (hr.mono (by decide)) (by rfl) (da_cons (de_var (i := 1)) da_nil))) (dss_cons (ds_set (i := 4) sc_law_rooms.nd (de_call C_law_names (hr.mono (by decide)) (by rfl) (da_cons (de_var (i := 0)) (da_cons (de_op od_add de_int (de_call C_law_take (hr.mono (by decide)) (by rfl) (da_cons (de_var (i := 0)) (da_cons (de_var (i := 2)) da_nil)))) da_nil)))) (dss_one (ds_ret (de_callTy cd_tuple (by rfl) T.z_tuple bt_tuple (da_cons (de_lc (own := [("_law_name", 5)]) (W' := E0W) fin_frozen rfl sc_law_rooms.nd (di_sq (de_var (i := 4))) (blkOk_by (own := [("_law_name", 5)]) (N := n_law_rooms) (sc := defScope s_law_rooms) (by decide +kernel)) (fun _ _ _ _ _ => (dg_name (i := 5) sc_law_rooms.nd)) (fun _ _ _ _ _ => dts_nil) (fun _ _ _ _ _ => (de_tup (da_cons (de_var (i := 5)) (da_cons (de_ix (de_var (i := 3)) (de_call C_law_take (hr.mono (by decide)) (by rfl) (da_cons (de_var (i := 0)) (da_cons (de_callB cd_len (by rfl) T.z_len bt_len (da_cons (de_var (i := 3)) da_nil)) da_nil)))) da_nil)))) (by decide)) da_nil))))))
/-! _law_kinds -/
abbrev s_law_kinds : Stmt := top 69
abbrev n_law_kinds : List Str := ["_law_bag_here"]
theorem sc_law_kinds : FnScope n_law_kinds ["_law_bag_here"] (defScope s_law_kinds) := ⟨rfl, rfl, rfl, by decide +kernel, rfl, by decide +kernel, by decide +kernel⟩
noncomputable def b_law_kinds : XS := (xRet (xCall bTuple (xCons (xFn 2 f_law_names (xCons (xVar 0) (xCons (xOp dAdd (xC (.int 1)) (xFn 2 f_law_take (xCons (xVar 0) (xCons (xC (.int 5)) xNil)))) xNil))) xNil)))
noncomputable def f_law_kinds : Fn := callB 1 1 b_law_kinds
theorem ok_law_kinds {P : Program} {w : World} {K : PySem.W.Frag} {mg : Str → Option Value} {base : Heap} {f : Addr} {fd : FuncData} (T : G w K mg) (C_law_take : FnD P w K mg base 1 "_law_take" 2 f_law_take) (C_law_names : FnD P w K mg base 2 "_law_names" 2 f_law_names) (F : Fun K "_law_kinds" "_law_kinds" s_law_kinds f fd) : FnOk P w K mg base CX0 3 f fd ["_law_bag_here"] (spF K mg 1 f_law_kinds) :=
  fn_okE (k := 2) (body := b_law_kinds) F sc_law_kinds rfl rfl rfl rfl fun cdv A outer s H E W hr =>
  (dss_one (ds_ret (de_callTy cd_tuple (by rfl) T.z_tuple bt_tuple (da_cons (de_call C_law_names (hr.mono (by decide)) (by rfl) (da_cons (de_var (i := 0)) (da_cons (de_op od_add de_int (de_call C_law_take (hr.mono (by decide)) (by rfl) (da_cons (de_var (i := 0)) (da_cons de_int da_nil)))) da_nil))) da_nil))))
/-! _law_place -/
abbrev s_law_place : Stmt := top 71
abbrev n_law_place : List Str := ["_law_bag_here", "_law_kinds_here"]
theorem sc_law_place : FnScope n_law_place ["_law_bag_here"] (defScope s_law_place) := ⟨rfl, rfl, rfl, by decide +kernel, rfl, by decide +kernel, by decide +kernel⟩
noncomputable def b_law_place : XS := (xSeq (xAsg (xFn 1 f_law_kinds (xCons (xVar 0) xNil)) (xgName 1)) (xRet (xTup (xCons (xVar 1) (xCons (xFn 3 f_law_rooms (xCons (xVar 0) (xCons (xVar 1) (xCons (xOp dIx (xLst (xCons (xC (.int 2)) (xCons (xC (.int 4)) (xCons (xC (.int 8)) xNil)))) (xFn 2 f_law_take (xCons (xVar 0) (xCons (xC (.int 3)) xNil)))) xNil)))) xNil)))))
noncomputable def f_law_place : Fn := callB 1 2 b_law_place
theorem ok_law_place {P : Program} {w : World} {K : PySem.W.Frag} {mg : Str → Option Value} {base : Heap} {f : Addr} {fd : FuncData} (T : G w K mg) (C_law_take : FnD P w K mg base 1 "_law_take" 2 f_law_take) (C_law_rooms : FnD P w K mg base 3 "_law_rooms" 3 f_law_rooms) (C_law_kinds : FnD P w K mg base 3 "_law_kinds" 1 f_law_kinds) (F : Fun K "_law_place" "_law_place" s_law_place f fd) : FnOk P w K mg base CX0 4 f fd ["_law_bag_here"] (spF K mg 1 f_law_place) :=
  fn_okE (k := 3) (body := b_law_place) F sc_law_place rfl rfl rfl rfl fun cdv A outer s H E W hr =>
  (dss_cons (ds_set (i := 1) sc_law_place.nd (de_call C_law_kinds (hr.mono (by decide)) (by rfl) (da_cons (de_var (i := 0)) da_nil))) (dss_one (ds_ret (de_tup (da_cons (de_var (i := 1)) (da_cons (de_call C_law_rooms (hr.mono (by decide)) (by rfl) (da_cons (de_var (i := 0)) (da_cons (de_var (i := 1)) (da_cons (de_ix (de_lst (da_cons de_int (da_cons de_int (da_cons de_int da_nil)))) (de_call C_law_take (hr.mono (by decide)) (by rfl) (da_cons (de_var (i := 0)) (da_cons de_int da_nil)))) da_nil)))) da_nil))))))
/-! _law_bag -/
abbrev s_law_bag : Stmt := top 63
abbrev n_law_bag : List Str := ["_law_script", "_law_at", "_law_cell", "_law_far"]
theorem sc_law_bag : FnScope n_law_bag ["_law_script", "_law_at"] (defScope s_law_bag) := ⟨rfl, rfl, rfl, by decide +kernel, rfl, by decide +kernel, by decide +kernel⟩
noncomputable def b_law_bag : XS := (xSeq (xAsg (xOp dAdd (xOp dMul (xC (.int 6011)) (xVar 1)) (xC (.int 29))) (xgName 2)) (xSeq (xIfS (xTst (xOp dLt (xVar 1) (xCall bLen (xCons (xVar 0) xNil)))) (xAsg (xOp dIx (xVar 0) (xVar 1)) (xgName 2)) xNx) (xSeq (xAsg (xCall bAbs (xCons (xVar 2) xNil)) (xgName 3)) (xRet (xLstM (xCons (xOp dMul (xVar 3) (xCall bInt (xCons (xOp dGe (xVar 3) (xOp dPow (xC (.int 10)) (xC (.int 18)))) xNil))) (xCons (xOp dAdd (xOp dAdd (xOp dMod (xVar 2) (xC (.int 1000000000000000003))) (xOp dMul (xOp dMul (xC (.int 7919)) (xVar 1)) (xVar 1))) (xOp dMul (xC (.int 13)) (xVar 1))) (xCons (xC (.int 0)) xNil))))))))
noncomputable def f_law_bag : Fn := callB 2 4 b_law_bag
theorem ok_law_bag {P : Program} {w : World} {K : PySem.W.Frag} {mg : Str → Option Value} {base : Heap} {f : Addr} {fd : FuncData} (T : G w K mg) (F : Fun K "_law_bag" "_law_bag" s_law_bag f fd) : FnOk P w K mg base CX0 1 f fd ["_law_script", "_law_at"] (spF K mg 2 f_law_bag) :=
  fn_okE (k := 0) (body := b_law_bag) F sc_law_bag rfl rfl rfl rfl fun cdv A outer s H E W hr =>
  (dss_cons (ds_set (i := 2) sc_law_bag.nd (de_op od_add (de_op od_mul de_int (de_var (i := 1))) de_int)) (dss_cons (ds_if (dt_cmp od_lt (de_var (i := 1)) (de_callB cd_len (by rfl) T.z_len bt_len (da_cons (de_var (i := 0)) da_nil)) (nomark _)) (dss_one (ds_set (i := 2) sc_law_bag.nd (de_ix (de_var (i := 0)) (de_var (i := 1))))) dss_nil) (dss_cons (ds_set (i := 3) sc_law_bag.nd (de_callB cd_abs (by rfl) T.z_abs bt_abs (da_cons (de_var (i := 2)) da_nil))) (dss_one (ds_ret (de_lstM (da_cons (de_op od_mul (de_var (i := 3)) (de_callTy cd_int (by rfl) T.z_int bt_int (da_cons (de_cmp od_ge (de_var (i := 3)) (de_op od_pow de_int de_int) (nomark _)) da_nil))) (da_cons (de_op od_add (de_op od_add (de_op od_mod (de_var (i := 2)) de_int) (de_op od_mul (de_op od_mul de_int (de_var (i := 1))) (de_var (i := 1)))) (de_op od_mul de_int (de_var (i := 1)))) (da_cons de_int da_nil)))))))))
/-! law -/
abbrev s_law : Stmt := top 74
abbrev n_law : List Str := ["_law_script", "_law_at", "_law_bag_here", "_law_town", "_law_rows", "_law_stock", "_law_turn", "_law_room", "_law_row", "_law_more", "_law_odd", "_law_takes"]
theorem sc_law : FnScope n_law ["_law_script"] (defScope s_law) := ⟨rfl, rfl, rfl, by decide +kernel, rfl, by decide +kernel, by decide +kernel⟩
noncomputable def b_law : XS := (xSeq (xFor (xRng (xCons (xCall bMax (xCons (xC (.int 2)) (xCons (xCall bMin (xCons (xC (.int 3)) (xCons (xCall bLen (xCons (xVar 0) xNil)) xNil))) xNil))) xNil)) (xgName 1) (xSeq (xAsg (xFn 2 f_law_bag (xCons (xVar 0) (xCons (xVar 1) xNil))) (xgName 2)) (xSeq (xAsg (xFn 1 f_law_place (xCons (xVar 2) xNil)) (xgName 3)) (xSeq (xPar 4 5 (xLstM xNil) (xDictPK (xCons (xLc frozenL (xSq (xOp dIx (xVar 3) (xC (.int 1)))) (xgTup 2 (xgsCons (xgName 7) (xgsCons (xgName 11) xgsNil))) xYes (xTup (xCons (xVar 7) (xCons (xC (.int 0)) xNil))) [7, 11]) xNil))) (xSeq (xIfS (xNot (xTru (xFn 3 f_law_right (xCons (xVar 3) (xCons (xVar 4) (xCons (xVar 5) xNil)))))) (xRet (xC (.bl false))) xNx) (xFor (xRng (xCons (xOp dAdd (xC (.int 6)) (xFn 2 f_law_take (xCons (xVar 2) (xCons (xC (.int 15)) xNil)))) xNil)) (xgName 6) (xSeq (xAsg (xOp dIx (xOp dIx (xOp dIx (xVar 3) (xC (.int 1))) (xFn 2 f_law_take (xCons (xVar 2) (xCons (xCall bLen (xCons (xOp dIx (xVar 3) (xC (.int 1))) xNil)) xNil)))) (xC (.int 0))) (xgName 7)) (xSeq (xPar 8 9 (xTup (xCons (xC (.str "lock")) (xCons (xVar 7) xNil))) (xNeg (xC (.int 1)))) (xSeq (xIfS (xTst (xOp dGt (xFn 2 f_law_take (xCons (xVar 2) (xCons (xC (.int 3)) xNil))) (xC (.int 0)))) (xSeq (xAsg (xOp dAdd (xC (.int 1)) (xFn 2 f_law_take (xCons (xVar 2) (xCons (xOp dIx (xLst (xCons (xC (.int 1)) (xCons (xC (.int 5)) (xCons (xC (.int 50)) xNil)))) (xFn 2 f_law_take (xCons (xVar 2) (xCons (xC (.int 3)) xNil)))) xNil)))) (xgName 9)) (xAsg (xTup (xCons (xC (.str "unlock")) (xCons (xVar 7) (xCons (xVar 9) xNil)))) (xgName 8))) xNx) (xSeq (xAsg (xFn 2 f_law_odd_row (xCons (xVar 2) (xCons (xVar 7) xNil))) (xgName 10)) (xSeq (xIfS (xNot (xTru (xFn 3 f_law_barred (xCons (xVar 3) (xCons (xOp dAdd (xVar 4) (xLst (xCons (xVar 10) xNil))) (xCons (xCall bLen (xCons (xVar 4) xNil)) xNil)))))) (xRet (xC (.bl false))) xNx) (xSeq (xIfS (xTst (xOp dLt (xOp dAdd (xOp gd (xVar 5) (xVar 7)) (xVar 9)) (xC (.int 0)))) (xSeq (xIfS (xNot (xTru (xFn 3 f_law_barred (xCons (xVar 3) (xCons (xOp dAdd (xVar 4) (xLst (xCons (xVar 8) (xCons (xVar 10) xNil)))) (xCons (xCall bLen (xCons (xVar 4) xNil)) xNil)))))) (xRet (xC (.bl false))) xNx) xCt) xNx) (xSeq (xDrop (xAppend (xVar 4) (xVar 8))) (xSeq (xDPutK (xOp dAdd (xOp gd (xVar 5) (xVar 7)) (xVar 9)) (xVar 5) (xVar 7)) (xSeq (xIfS (xNot (xTru (xFn 3 f_law_right (xCons (xVar 3) (xCons (xVar 4) (xCons (xVar 5) xNil)))))) (xRet (xC (.bl false))) xNx) (xIfS (xNot (xTru (xFn 3 f_law_barred (xCons (xVar 3) (xCons (xOp dAdd (xLst (xCons (xVar 10) xNil)) (xVar 4)) (xCons (xC (.int 0)) xNil)))))) (xRet (xC (.bl false))) xNx)))))))))))))))) (xRet (xC (.bl true))))
noncomputable def f_law : Fn := callB 1 12 b_law
theorem ok_law {P : Program} {w : World} {K : PySem.W.Frag} {mg : Str → Option Value} {base : Heap} {f : Addr} {fd : FuncData} (T : G w K mg) (C_law_take : FnD P w K mg base 1 "_law_take" 2 f_law_take) (C_law_barred : FnD P w K mg base 8 "_law_barred" 3 f_law_barred) (C_law_right : FnD P w K mg base 8 "_law_right" 3 f_law_right) (C_law_odd_row : FnD P w K mg base 2 "_law_odd_row" 2 f_law_odd_row) (C_law_place : FnD P w K mg base 4 "_law_place" 1 f_law_place) (C_law_bag : FnD P w K mg base 1 "_law_bag" 2 f_law_bag) (F : Fun K "law" "law" s_law f fd) : FnOk P w K mg base CX0 9 f fd ["_law_script"] (spF K mg 1 f_law) :=
  fn_okE (k := 8) (body := b_law) F sc_law rfl rfl rfl rfl fun cdv A outer s H E W hr =>
  (dss_cons (ds_for PassesOwn.never rfl (di_range1 (by rfl) T.z_range (da_cons (de_callB (cd_max rfl) (by rfl) T.z_max bt_max (da_cons de_int (da_cons (de_callB (cd_min rfl) (by rfl) T.z_min bt_min (da_cons de_int (da_cons (de_callB cd_len (by rfl) T.z_len bt_len (da_cons (de_var (i := 0)) da_nil)) da_nil))) da_nil))) da_nil)) (dg_name (i := 1) sc_law.nd) (dss_cons (ds_set (i := 2) sc_law.nd (de_call C_law_bag (hr.mono (by decide)) (by rfl) (da_cons (de_var (i := 0)) (da_cons (de_var (i := 1)) da_nil)))) (dss_cons (ds_set (i := 3) sc_law.nd (de_call C_law_place (hr.mono (by decide)) (by rfl) (da_cons (de_var (i := 2)) da_nil))) (dss_cons (ds_par (i := 4) (j := 5) rfl sc_law.nd (by decide) (de_lstM da_nil) (de_dictPK rfl (by rfl) T.z_dict (da_cons (de_lc (own := [("_law_room", 7), ("_law_takes", 11)]) (W' := E0W) fin_frozen rfl sc_law.nd (di_sq (de_ix (de_var (i := 3)) de_int)) (blkOk_by (own := [("_law_room", 7), ("_law_takes", 11)]) (N := n_law) (sc := defScope s_law) (by decide +kernel)) (fun _ _ _ _ _ => (dg_tup rfl (dgs_cons (dg_name (i := 7) sc_law.nd) (dgs_cons (dg_name (i := 11) sc_law.nd) dgs_nil)))) (fun _ _ _ _ _ => dts_nil) (fun _ _ _ _ _ => (de_tup (da_cons (de_var (i := 7)) (da_cons de_int da_nil)))) (by decide)) da_nil))) (dss_cons (ds_if (dt_not (dt_tru (de_call C_law_right (hr.mono (by decide)) (by rfl) (da_cons (de_var (i := 3)) (da_cons (de_var (i := 4)) (da_cons (de_var (i := 5)) da_nil)))))) (dss_one (ds_ret de_bl)) dss_nil) (dss_one (ds_for PassesOwn.never rfl (di_range1 (by rfl) T.z_range (da_cons (de_op od_add de_int (de_call C_law_take (hr.mono (by decide)) (by rfl) (da_cons (de_var (i := 2)) (da_cons de_int da_nil)))) da_nil)) (dg_name (i := 6) sc_law.nd) (dss_cons (ds_set (i := 7) sc_law.nd (de_ix (de_ix (de_ix (de_var (i := 3)) de_int) (de_call C_law_take (hr.mono (by decide)) (by rfl) (da_cons (de_var (i := 2)) (da_cons (de_callB cd_len (by rfl) T.z_len bt_len (da_cons (de_ix (de_var (i := 3)) de_int) da_nil)) da_nil)))) de_int)) (dss_cons (ds_par (i := 8) (j := 9) rfl sc_law.nd (by decide) (de_tup (da_cons de_str (da_cons (de_var (i := 7)) da_nil))) (de_neg de_int)) (dss_cons (ds_if (dt_cmp od_gt (de_call C_law_take (hr.mono (by decide)) (by rfl) (da_cons (de_var (i := 2)) (da_cons de_int da_nil))) de_int (nomark _)) (dss_cons (ds_set (i := 9) sc_law.nd (de_op od_add de_int (de_call C_law_take (hr.mono (by decide)) (by rfl) (da_cons (de_var (i := 2)) (da_cons (de_ix (de_lst (da_cons de_int (da_cons de_int (da_cons de_int da_nil)))) (de_call C_law_take (hr.mono (by decide)) (by rfl) (da_cons (de_var (i := 2)) (da_cons de_int da_nil)))) da_nil))))) (dss_one (ds_set (i := 8) sc_law.nd (de_tup (da_cons de_str (da_cons (de_var (i := 7)) (da_cons (de_var (i := 9)) da_nil))))))) dss_nil) (dss_cons (ds_set (i := 10) sc_law.nd (de_call C_law_odd_row (hr.mono (by decide)) (by rfl) (da_cons (de_var (i := 2)) (da_cons (de_var (i := 7)) da_nil)))) (dss_cons (ds_if (dt_not (dt_tru (de_call C_law_barred (hr.mono (by decide)) (by rfl) (da_cons (de_var (i := 3)) (da_cons (de_op od_add (de_var (i := 4)) (de_lst (da_cons (de_var (i := 10)) da_nil))) (da_cons (de_callB cd_len (by rfl) T.z_len bt_len (da_cons (de_var (i := 4)) da_nil)) da_nil)))))) (dss_one (ds_ret de_bl)) dss_nil) (dss_cons (ds_if (dt_cmp od_lt (de_op od_add (de_dgetA hr (de_var (i := 5)) (de_var (i := 7)) (by intro _ _; rfl)) (de_var (i := 9))) de_int (nomark _)) (dss_cons (ds_if (dt_not (dt_tru (de_call C_law_barred (hr.mono (by decide)) (by rfl) (da_cons (de_var (i := 3)) (da_cons (de_op od_add (de_var (i := 4)) (de_lst (da_cons (de_var (i := 8)) (da_cons (de_var (i := 10)) da_nil)))) (da_cons (de_callB cd_len (by rfl) T.z_len bt_len (da_cons (de_var (i := 4)) da_nil)) da_nil)))))) (dss_one (ds_ret de_bl)) dss_nil) (dss_one ds_continue)) dss_nil) (dss_cons (ds_expr (de_append (de_var (i := 4)) (de_var (i := 8)))) (dss_cons (ds_dputK hr (de_op od_add (de_dgetA hr (de_var (i := 5)) (de_var (i := 7)) (by intro _ _; rfl)) (de_var (i := 9))) (de_var (i := 5)) (de_var (i := 7))) (dss_cons (ds_if (dt_not (dt_tru (de_call C_law_right (hr.mono (by decide)) (by rfl) (da_cons (de_var (i := 3)) (da_cons (de_var (i := 4)) (da_cons (de_var (i := 5)) da_nil)))))) (dss_one (ds_ret de_bl)) dss_nil) (dss_one (ds_if (dt_not (dt_tru (de_call C_law_barred (hr.mono (by decide)) (by rfl) (da_cons (de_var (i := 3)) (da_cons (de_op od_add (de_lst (da_cons (de_var (i := 10)) da_nil)) (de_var (i := 4))) (da_cons de_int da_nil)))))) (dss_one (ds_ret de_bl)) dss_nil)))))))))))))))))) (dss_one (ds_ret de_bl)))
local macro_rules | `(tactic| walk_at "go") => `(tactic| first
  | with_reducible refine v_seq ?_ | with_reducible refine v_thn ?_ | with_reducible refine v_thr ?_ | with_reducible refine v_asg ?_ | with_reducible refine v_ret ?_ | with_reducible refine v_op ?_ | with_reducible refine v_cons ?_ | with_reducible refine v_nil ?_ | with_reducible refine v_call ?_ | (with_reducible refine v_var (by with_unfolding_all rfl) ?_) | with_reducible refine v_c ?_ | with_reducible refine v_tst ?_ | with_reducible refine v_tru ?_
  | with_reducible refine v_tup ?_ | with_reducible refine v_lst ?_ | with_reducible refine v_lstM ?_ | with_reducible refine v_nx ?_ | with_reducible refine v_setL ?_ | with_reducible refine v_par ?_ | with_reducible refine v_neg ?_ | with_reducible refine v_rev ?_ | with_reducible refine v_sl ?_ | with_reducible refine v_none ?_ | with_reducible refine v_some ?_ | with_reducible refine v_not ?_ | with_reducible refine v_or ?_ | with_reducible refine v_and ?_
  | with_reducible refine v_fn ?_ | with_reducible refine v_fnK ?_ | with_reducible refine v_andV ?_ | with_reducible refine v_chain ?_ | with_reducible refine v_if ?_ | with_reducible refine v_upper ?_ | with_reducible refine v_dict0 ?_ | with_reducible refine v_dict1 ?_
  | with_reducible refine Exists.intro _ (And.intro add_ii ?_) | with_reducible refine Exists.intro _ (And.intro sub_ii ?_) | with_reducible refine Exists.intro _ (And.intro lt_ii ?_) | with_reducible refine Exists.intro _ (And.intro le_ii ?_) | with_reducible refine Exists.intro _ (And.intro gt_ii ?_) | with_reducible refine Exists.intro _ (And.intro ge_ii ?_) | with_reducible refine Exists.intro _ (And.intro (Eq.refl (D.bl _)) ?_) | with_reducible refine Exists.intro _ (And.intro (Eq.refl (D.int _)) ?_) | with_reducible refine Exists.intro _ (And.intro (Eq.refl (D.str _)) ?_) | with_reducible refine Exists.intro _ (And.intro tru_b ?_) | with_reducible refine Exists.intro _ (And.intro blen_l ?_) | with_reducible refine Exists.intro _ (And.intro blen_t ?_) | with_reducible refine Exists.intro _ (And.intro blen_sc ?_)
  | (with_reducible refine And.intro (show _ ≤ 100000 by simp) ?_))
local macro_rules | `(tactic| walk_at "gos") => `(tactic| repeat walk_at "go")
/-! ### what of the memory stays -/
/-- new things alone -/
def Gr (M M' : Mem) : Prop := ∃ T, M' = M ++ T
/-- all old things but that at n stay -/
def Kp (n : Nat) (M M' : Mem) : Prop := M.length ≤ M'.length ∧ ∀ j, j < M.length → j ≠ n → M'[j]? = M[j]?
theorem Gr.refl (M : Mem) : Gr M M := ⟨[], by simp⟩
theorem Gr.trans {A B C : Mem} (h : Gr A B) (h' : Gr B C) : Gr A C := by
  obtain ⟨T, rfl⟩ := h
  obtain ⟨U, rfl⟩ := h'
  exact ⟨T ++ U, by simp⟩
theorem Gr.app (M T : Mem) : Gr M (M ++ T) := ⟨T, rfl⟩
theorem Gr.len {M M' : Mem} (h : Gr M M') : M.length ≤ M'.length := by
  obtain ⟨T, rfl⟩ := h
  simp
theorem Gr.at {M M' : Mem} (h : Gr M M') {j : Nat} {o : Ob} (e : M[j]? = some o) : M'[j]? = some o := by
  obtain ⟨T, rfl⟩ := h
  rw [List.getElem?_append_left (List.getElem?_eq_some_iff.mp e).1]
  exact e
/-- a new thing changes -/
theorem Gr.set {M M' : Mem} (h : Gr M M') {j : Nat} {o : Ob} (hj : M.length ≤ j) : Gr M (M'.set j o) := by
  obtain ⟨T, rfl⟩ := h
  refine ⟨T.set (j - M.length) o, ?_⟩
  rw [List.set_append_right _ _ hj]
theorem Gr.kp {M M' : Mem} (h : Gr M M') (n : Nat) : Kp n M M' := by
  obtain ⟨T, rfl⟩ := h
  exact ⟨by simp, fun j hj _ => List.getElem?_append_left hj⟩
theorem Kp.refl (n : Nat) (M : Mem) : Kp n M M := ⟨Nat.le_refl _, fun _ _ _ => rfl⟩
theorem Kp.trans {n : Nat} {A B C : Mem} (h : Kp n A B) (h' : Kp n B C) : Kp n A C :=
  ⟨Nat.le_trans h.1 h'.1, fun j hj hn => (h'.2 j (Nat.lt_of_lt_of_le hj h.1) hn).trans (h.2 j hj hn)⟩
theorem Kp.put (n : Nat) (M : Mem) (o : Ob) : Kp n M (M.set n o) := ⟨by simp, fun j _ hn => List.getElem?_set_ne (Ne.symm hn)⟩
theorem Kp.at {n : Nat} {M M' : Mem} (h : Kp n M M') {j : Nat} {o : Ob} (hn : j ≠ n) (e : M[j]? = some o) : M'[j]? = some o := by
  rw [h.2 j (List.getElem?_eq_some_iff.mp e).1 hn]
  exact e
/-- what is behind the old things changes -/
theorem Kp.set {n : Nat} {M M' : Mem} (h : Kp n M M') {j : Nat} {o : Ob} (hj : M.length ≤ j) : Kp n M (M'.set j o) :=
  ⟨by simpa using h.1, fun i hi hn => by rw [List.getElem?_set_ne (by omega)]; exact h.2 i hi hn⟩
def bagOb (a b c : Int) : Ob := .lst [.int a, .int b, .int c]
def BagAt (M : Mem) (n : Nat) (N : Int) : Prop := ∃ a b c, M[n]? = some (bagOb a b c) ∧ 0 ≤ b ∧ b < 2 ^ 64 ∧ 0 ≤ c ∧ c ≤ N ∧ N < 2 ^ 40
theorem pw_small {x : Int} (h : x.natAbs < 2 ^ 200) : x.natAbs < 2 ^ 10000 := Nat.lt_of_lt_of_le h (Nat.pow_le_pow_right (by decide) (by decide))
def primesD : List D := [.int 2147483647, .int 2147483629, .int 2147483587, .int 2147483579, .int 2147483563, .int 2147483549, .int 2147483543, .int 2147483497]
theorem prime_at {i : Int} (h0 : 0 ≤ i) (h1 : i < 8) : ∃ p, atI primesD i = some (.int p) ∧ 2147483000 < p ∧ p < 2147483648 := by
  obtain ⟨k, rfl⟩ := Int.eq_ofNat_of_zero_le h0
  rw [ix_nat]
  have hk : k < 8 := by omega
  match k, hk with
  | 0, _ => exact ⟨_, rfl, by decide⟩
  | 1, _ => exact ⟨_, rfl, by decide⟩
  | 2, _ => exact ⟨_, rfl, by decide⟩
  | 3, _ => exact ⟨_, rfl, by decide⟩
  | 4, _ => exact ⟨_, rfl, by decide⟩
  | 5, _ => exact ⟨_, rfl, by decide⟩
  | 6, _ => exact ⟨_, rfl, by decide⟩
  | 7, _ => exact ⟨_, rfl, by decide⟩
structure Took (k : Int) (n : Nat) (N : Int) (M : Mem) (d : D) (M' : Mem) : Prop where
  ex : ∃ r, d = .int r ∧ 0 ≤ r ∧ r < k ∧ BagAt M' n (N + 1) ∧ Kp n M M'
theorem take_ok {M : Mem} {n : Nat} {k N : Int} (h : BagAt M n N) (hN : N + 1 < 2 ^ 40) (hk : 0 < k) (hk2 : k < 1073741824) : Gv (f_law_take [.ptr n, .int k] M) fun d M' => Took k n N M d M' := by
  obtain ⟨a, b, c, hM, h0, h1, h2, h3, h4⟩ := h
  have hl : n < M.length := (List.getElem?_eq_some_iff.mp hM).1
  refine v_body rfl ?_
  unfold b_law_take
  walk_at "gos"
  refine v_ifS ?_
  walk_at "gos"
  refine ⟨.int a, by rw [ix_p hM, ix_0]; rfl, ?_⟩
  walk_at "gos"
  by_cases ha : 0 < a
  · rw [if_pos (by simpa using ha)]
    walk_at "gos"
    refine ⟨.int a, by rw [ix_p hM, ix_0]; rfl, ?_⟩
    walk_at "gos"
    refine ⟨_, mod_ii hk, ?_⟩
    walk_at "gos"
    refine ⟨.int a, by rw [ix_p hM, ix_0]; rfl, ?_⟩
    walk_at "gos"
    refine ⟨_, div_ii hk hk2, ?_⟩
    walk_at "gos"
    refine ⟨n, _, 0, 0, rfl, rfl, hM, rfl, ?_⟩
    walk_at "gos"
    refine ⟨⟨_, rfl, Int.emod_nonneg _ (by omega), Int.emod_lt_of_pos _ hk, ⟨a / k, b, c, ?_, h0, h1, h2, by omega, hN⟩, Kp.put _ _ _⟩⟩
    rw [List.getElem?_set_self hl]
    rfl
  · rw [if_neg (by simpa using ha)]
    walk_at "gos"
    refine ⟨.int c, by rw [ix_p hM, ix_2]; rfl, ?_⟩
    walk_at "gos"
    refine ⟨n, _, 2, 2, rfl, rfl, hM, rfl, ?_⟩
    have hM' : (M.set n (.lst (([.int a, .int b, .int c] : List D).set 2 (.int (c + 1)))))[n]? = some (.lst [.int a, .int b, .int (c + 1)]) := by
      rw [List.getElem?_set_self hl]
      rfl
    have hkp : Kp n M (M.set n (.lst (([.int a, .int b, .int c] : List D).set 2 (.int (c + 1))))) := Kp.put _ _ _
    generalize M.set n (.lst (([.int a, .int b, .int c] : List D).set 2 (.int (c + 1)))) = M' at hM' hkp
    walk_at "gos"
    refine ⟨.int (c + 1), by rw [ix_p hM', ix_2]; rfl, ?_⟩
    walk_at "gos"
    refine ⟨.int b, by rw [ix_p hM', ix_1]; rfl, ?_⟩
    walk_at "gos"
    refine ⟨_, mul_l (by decide) (by decide), ?_⟩
    walk_at "gos"
    refine ⟨_, mul_l (by omega) h1, ?_⟩
    walk_at "gos"
    refine ⟨_, mul_l (by decide) (by decide), ?_⟩
    walk_at "gos"
    refine ⟨_, mul_r (by omega) (by omega), ?_⟩
    walk_at "gos"
    have hp1 : b * (2 * (c + 1) + 1) ≤ 2 ^ 64 * 2 ^ 42 := Int.mul_le_mul (by omega) (by omega) (by omega) (by omega)
    have hp0 : 0 ≤ b * (2 * (c + 1) + 1) := Int.mul_nonneg h0 (by omega)
    have hp3 : 6121 * (c + 1) * (c + 1) ≤ 2 ^ 60 * 2 ^ 41 := Int.mul_le_mul (by omega) (by omega) (by omega) (by omega)
    have hp2 : 0 ≤ 6121 * (c + 1) * (c + 1) := Int.mul_nonneg (by omega) (by omega)
    generalize b * (2 * (c + 1) + 1) = u at hp0 hp1
    generalize 6121 * (c + 1) * (c + 1) = v at hp2 hp3
    refine ⟨_, pow_ii ⟨by decide, by decide, pw_small (by omega)⟩, ?_⟩
    generalize (u + v + 41) ^ Int.toNat 3 = z
    walk_at "gos"
    refine ⟨_, mod_ii (by decide), ?_⟩
    have m8 : 0 ≤ (c + 1) % 8 ∧ (c + 1) % 8 < 8 := ⟨Int.emod_nonneg _ (by decide), Int.emod_lt_of_pos _ (by decide)⟩
    have m9 : 0 ≤ (c + 1 + 3) % 8 ∧ (c + 1 + 3) % 8 < 8 := ⟨Int.emod_nonneg _ (by decide), Int.emod_lt_of_pos _ (by decide)⟩
    obtain ⟨p1, e1, q1⟩ := prime_at m8.1 m8.2
    obtain ⟨p2, e2, q2⟩ := prime_at m9.1 m9.2
    refine ⟨.int p1, by rw [ix_t]; exact e1, ?_⟩
    refine ⟨_, mod_ii (by omega), ?_⟩
    have hz : 0 ≤ z % p1 ∧ z % p1 < p1 := ⟨Int.emod_nonneg _ (by omega), Int.emod_lt_of_pos _ (by omega)⟩
    generalize z % p1 = y at hz
    walk_at "gos"
    refine ⟨_, div_ii (by decide) (by decide), ?_⟩
    walk_at "gos"
    refine ⟨_, mul_l (by omega) (by omega), ?_⟩
    walk_at "gos"
    refine ⟨_, mod_ii (by decide), ?_⟩
    refine ⟨.int p2, by rw [ix_t]; exact e2, ?_⟩
    refine ⟨_, mod_ii (by omega), ?_⟩
    walk_at "gos"
    refine ⟨_, div_ii (by decide) (by decide), ?_⟩
    walk_at "gos"
    refine ⟨_, mod_ii hk, ?_⟩
    exact ⟨⟨_, rfl, Int.emod_nonneg _ (by omega), Int.emod_lt_of_pos _ hk, ⟨a, b, c + 1, hM', h0, h1, by omega, by omega, hN⟩, hkp⟩⟩
theorem b01 (b : Bool) : -(2 ^ 64) < (if b = true then (1 : Int) else 0) ∧ (if b = true then (1 : Int) else 0) < 2 ^ 64 := by
  cases b <;> decide
theorem bag_ok {M : Mem} {ns : List Int} {k : Nat} (hk : k ≤ 1000) : Gv (f_law_bag [.scr ns, .int k] M) fun d M' => d = .ptr M.length ∧ BagAt M' M.length 0 ∧ Gr M M' := by
  refine v_body rfl ?_
  unfold b_law_bag
  walk_at "gos"
  refine ⟨_, mul_l (by decide) (by decide), ?_⟩
  walk_at "gos"
  refine Gv.imp (P := fun fl M1 => (∃ cell : Int, fl = Fl.nx [some (D.scr ns), some (D.int k), some (D.int cell), none]) ∧ M1 = M) (v_ifS ?_) ?_
  · walk_at "gos"
    by_cases h : k < ns.length
    · rw [if_pos (by simpa using h)]
      walk_at "gos"
      refine ⟨_, by rw [ix_sc, ix_nat, List.getElem?_eq_getElem h]; rfl, ?_⟩
      exact ⟨⟨_, rfl⟩, rfl⟩
    · rw [if_neg (by simpa using h)]
      walk_at "gos"
      exact ⟨⟨_, rfl⟩, rfl⟩
  · rintro _ _ ⟨⟨cell, rfl⟩, rfl⟩
    walk_at "gos"
    refine ⟨_, babs, ?_⟩
    walk_at "gos"
    refine ⟨_, pow_ii ⟨by decide, by decide, pw_small (by decide)⟩, ?_⟩
    walk_at "gos"
    refine ⟨_, bint_b, ?_⟩
    refine ⟨_, mul_r (b01 _).1 (b01 _).2, ?_⟩
    walk_at "gos"
    refine ⟨_, mod_ii (by decide), ?_⟩
    walk_at "gos"
    refine ⟨_, mul_l (by decide) (by decide), ?_⟩
    walk_at "gos"
    refine ⟨_, mul_r (by omega) (by omega), ?_⟩
    walk_at "gos"
    refine ⟨_, mul_l (by decide) (by decide), ?_⟩
    walk_at "gos"
    refine ⟨rfl, ⟨_, _, _, by rw [List.getElem?_append_right (Nat.le_refl _)]; simp; rfl, ?_, ?_, by decide, by decide, by decide⟩, Gr.app _ _⟩
    · have h1 : 0 ≤ cell % 1000000000000000003 := Int.emod_nonneg _ (by decide)
      have h2 : 0 ≤ 7919 * (k : Int) * (k : Int) := Int.mul_nonneg (by omega) (by omega)
      omega
    · have h1 : cell % 1000000000000000003 < 1000000000000000003 := Int.emod_lt_of_pos _ (by decide)
      have h2 : 7919 * (k : Int) * (k : Int) ≤ 7919000 * 1000 := Int.mul_le_mul (by omega) (by omega) (by omega) (by omega)
      omega
theorem BagAt.gr {M M' : Mem} {n : Nat} {N : Int} (h : BagAt M n N) (g : Gr M M') : BagAt M' n N := by
  obtain ⟨a, b, c, hM, r⟩ := h
  exact ⟨a, b, c, g.at hM, r⟩
theorem BagAt.set {M : Mem} {n m : Nat} {N : Int} {o : Ob} (h : BagAt M n N) (hm : m ≠ n) : BagAt (M.set m o) n N := by
  obtain ⟨a, b, c, hM, r⟩ := h
  exact ⟨a, b, c, by rw [List.getElem?_set_ne hm]; exact hM, r⟩
theorem BagAt.lt {M : Mem} {n : Nat} {N : Int} (h : BagAt M n N) : n < M.length := by
  obtain ⟨a, b, c, hM, r⟩ := h
  exact (List.getElem?_eq_some_iff.mp hM).1
theorem BagAt.up {M : Mem} {n : Nat} {N N' : Int} (h : BagAt M n N) (h1 : N ≤ N') (h2 : N' < 2 ^ 40) : BagAt M n N' := by
  obtain ⟨a, b, c, hM, h0, h1', h2', h3, h4⟩ := h
  exact ⟨a, b, c, hM, h0, h1', h2', by omega, h2⟩
/-- so many signs drawn -/
theorem signs_ok {M : Mem} {n : Nat} {N : Int} {m : Nat} {η : Dv} (h : BagAt M n N) (hN : N + m < 2 ^ 40) (h0 : η[0]? = some (some (.ptr n))) (h2 : η[2]? = some (some (.str "abcdefghijklmnopqrstuvwxyz"))) :
    Gv (xLcL (xgName 6) xYes (xOp dIx (xVar 2) (xFn 2 f_law_take (xCons (xVar 0) (xCons (xC (.int 26)) xNil)))) ((List.range m).map fun i => .int (i : Nat)) η M) fun r M1 => (∃ ss : List Str, r = ss.map D.str ∧ ss.length = m ∧ ∀ s ∈ ss, s.length = 1) ∧ BagAt M1 n (N + m) ∧ Kp n M M1 := by
  refine (v_lcL (fun rest acc M1 => ∃ ss : List Str, acc = ss.map D.str ∧ ss.length + rest.length = m ∧ (∀ s ∈ ss, s.length = 1) ∧ BagAt M1 n (N + ss.length) ∧ Kp n M M1) _ ?_ [] ⟨[], rfl, by simp, by simp, by simpa using h, Kp.refl _ _⟩).imp ?_
  · rintro d r acc M1 ⟨ss, rfl, hl, hs, hb, kp⟩
    refine v_gn (v_yes ?_)
    rw [if_pos rfl]
    simp only [List.length_cons] at hl
    refine v_op (v_var (by rw [List.getElem?_set_ne (by decide)]; exact h2) ?_)
    refine v_fn (v_cons (v_var (by rw [List.getElem?_set_ne (by decide)]; exact h0) (v_cons (v_c (v_nil ⟨rfl, ?_⟩)))))
    refine (take_ok hb (by omega) (by decide) (by decide)).imp ?_
    rintro _ M2 ⟨⟨x, rfl, x0, x1, hb2, kp2⟩⟩
    obtain ⟨c, e, _⟩ := ix_in (l := ("abcdefghijklmnopqrstuvwxyz" : Str).cps.toList) x0 x1
    refine ⟨.str ⟨#[c]⟩, by rw [ix_s (by decide), e]; rfl, ?_⟩
    refine ⟨ss ++ [⟨#[c]⟩], by simp, by simp; omega, ?_, ?_, kp.trans kp2⟩
    · intro s hs'
      rcases List.mem_append.mp hs' with q | q
      · exact hs s q
      · simp at q; subst q; rfl
    · have : N + ((ss ++ [(⟨#[c]⟩ : Str)]).length : Int) = N + ss.length + 1 := by simp; omega
      rw [this]; exact hb2
  · rintro r M1 ⟨ss, e, hl, hs, hb, kp⟩
    simp at hl
    simp at e
    subst e
    exact ⟨⟨ss, rfl, hl, hs⟩, by rw [← hl]; exact hb, kp⟩
theorem join_len {ss : List Str} (h : ∀ s ∈ ss, s.length = 1) : (Txt.join "" ss).length = ss.length := by
  show (Builtin.Str.glued "" ss).length = _
  rw [PySem.size_glued]
  have e : ((("" : Str)).length) = 0 := rfl
  rw [e, Nat.mul_zero, Nat.add_zero]
  induction ss with
  | nil => rfl
  | cons a l ih =>
    rw [List.map_cons, List.sum_cons, h a (List.mem_cons_self ..), ih fun s hs => h s (List.mem_cons_of_mem _ hs), List.length_cons]
    omega
theorem sum_len {ss : List Str} (h : ∀ s ∈ ss, s.length = 1) : (ss.map fun (q : Str) => q.length).sum = ss.length := by
  induction ss with
  | nil => rfl
  | cons a l ih =>
    rw [List.map_cons, List.sum_cons, h a (List.mem_cons_self ..), ih fun s hs => h s (List.mem_cons_of_mem _ hs), List.length_cons]
    omega
theorem join_cap {ss : List Str} (h : ∀ s ∈ ss, s.length = 1) (h1 : ss.length ≤ 1000) : (ss.map fun (q : Str) => q.length).sum + ss.length * ("" : Str).length ≤ 16777216 := by
  have e : ("" : Str).length = 0 := rfl
  rw [sum_len h, e]
  omega
theorem len_append (s t : Str) : (s ++ t).length = s.length + t.length := by
  show (s.cps ++ t.cps).size = s.cps.size + t.cps.size
  exact Array.size_append
def NamesUp (k : Nat) (d : D) : Prop := ∃ ss : List Str, d = .lst (ss.map D.str) ∧ ss.length = k ∧ (∀ s ∈ ss, s.length ≤ 8) ∧ ss.Pairwise fun a b => a.cps.toList < b.cps.toList
def abcL : List Nat := ("abcdefghijklmnopqrstuvwxyz" : Str).cps.toList
theorem abc_nodup : abcL.Nodup := by decide +kernel
theorem abc_len : abcL.length = 26 := by decide +kernel
theorem cps_append (s t : Str) : (s ++ t).cps.toList = s.cps.toList ++ t.cps.toList := by
  show (s.cps ++ t.cps).toList = _
  simp
theorem lt_cps : ∀ a b : List Nat, PySem.Spec.ltCps a b = decide (a < b)
  | [], [] => by simp [PySem.Spec.ltCps]
  | [], _ :: _ => by simp [PySem.Spec.ltCps]
  | _ :: _, [] => by simp [PySem.Spec.ltCps]
  | a :: r, b :: t => by
    have ih := lt_cps r t
    simp only [PySem.Spec.ltCps, ih]
    rw [Bool.eq_iff_iff]
    simp [List.cons_lt_cons_iff]
theorem names_nodup {ss : List Str} {fi : Int} {p : Nat} (hl : ss.length ≤ 26) (h : ∀ (q : Nat) (s : Str), ss[q]? = some s → s.cps.toList[p]? = abcL[((fi + 5 * (q : Int)) % 26).toNat]?) : ss.Nodup := by
  rw [List.Nodup, List.pairwise_iff_getElem]
  intro i j hi hj hij e
  have h1 := h i _ (List.getElem?_eq_getElem hi)
  have h2 := h j _ (List.getElem?_eq_getElem hj)
  rw [e, h2] at h1
  have b1 : ((fi + 5 * (i : Int)) % 26).toNat < abcL.length := by rw [abc_len]; omega
  have b2 : ((fi + 5 * (j : Int)) % 26).toNat < abcL.length := by rw [abc_len]; omega
  rw [List.getElem?_eq_getElem b1, List.getElem?_eq_getElem b2] at h1
  have := (List.getElem_inj abc_nodup).mp (Option.some.inj h1)
  omega
/-- no name is empty, or stands ahead in another one -/
def PfN (ss : List Str) : Prop := (∀ a ∈ ss, a ≠ "") ∧ ∀ a ∈ ss, ∀ b ∈ ss, ∀ t, b = a ++ t → b = a
theorem names_pfx {ss : List Str} {fi : Int} {p : Nat} (hl : ss.length ≤ 26) (h : ∀ (q : Nat) (s : Str), ss[q]? = some s → s.cps.toList[p]? = abcL[((fi + 5 * (q : Int)) % 26).toNat]?) : PfN ss := by
  refine ⟨fun a ha e => ?_, fun a ha b hb t e => ?_⟩
  · obtain ⟨i, hi, ea⟩ := List.mem_iff_getElem.mp ha
    have h1 := h i a (by rw [List.getElem?_eq_getElem hi, ea])
    have b1 : ((fi + 5 * (i : Int)) % 26).toNat < abcL.length := by rw [abc_len]; omega
    rw [List.getElem?_eq_getElem b1, e] at h1
    have := (List.getElem?_eq_some_iff.mp h1).1
    have h0 : ("" : Str).cps.toList.length = 0 := by decide +kernel
    omega
  obtain ⟨i, hi, ea⟩ := List.mem_iff_getElem.mp ha
  obtain ⟨j, hj, eb⟩ := List.mem_iff_getElem.mp hb
  have h1 := h i a (by rw [List.getElem?_eq_getElem hi, ea])
  have h2 := h j b (by rw [List.getElem?_eq_getElem hj, eb])
  have b1 : ((fi + 5 * (i : Int)) % 26).toNat < abcL.length := by rw [abc_len]; omega
  have b2 : ((fi + 5 * (j : Int)) % 26).toNat < abcL.length := by rw [abc_len]; omega
  rw [List.getElem?_eq_getElem b1] at h1
  have hp := (List.getElem?_eq_some_iff.mp h1).1
  rw [e, cps_append, List.getElem?_append_left hp, h1, List.getElem?_eq_getElem b2] at h2
  have := (List.getElem_inj abc_nodup).mp (Option.some.inj h2)
  have hij : i = j := by omega
  subst hij
  rw [← ea, ← eb]
theorem srt_up {ss : List Str} (h : ss.Nodup) : (srt ss).Pairwise fun a b => a.cps.toList < b.cps.toList := by
  have h1 : (srt ss).Pairwise fun a b => leS a b = true := List.pairwise_mergeSort (le := leS) leS_trans leS_total ss
  have h2 : (srt ss).Pairwise fun a b => a ≠ b := (srt_perm ss).nodup_iff.mpr h
  refine (h1.and h2).imp fun {a b} ⟨q1, q2⟩ => ?_
  unfold leS at q1
  by_cases hc : PySem.Spec.ltCps a.cps.toList b.cps.toList = true
  · rw [lt_cps] at hc
    simpa using hc
  · exact absurd (PySem.W.str_of_cps (ltCps_anti _ _ (by simpa using hc) (by simpa using q1))) q2
def NamesPf (k : Nat) (d : D) : Prop := ∃ ss : List Str, d = .lst (ss.map D.str) ∧ ss.length = k ∧ (∀ s ∈ ss, s.length ≤ 8) ∧ (ss.Pairwise fun a b => a.cps.toList < b.cps.toList) ∧ PfN ss
theorem names_pf {M : Mem} {n : Nat} {N : Int} {k : Nat} (h : BagAt M n N) (hN : N + 10 < 2 ^ 40) (hk : k ≤ 26) : Gv (f_law_names [.ptr n, .int k] M) fun d M' => NamesPf k d ∧ BagAt M' n (N + 10) ∧ Kp n M M' := by
  refine v_body rfl ?_
  unfold b_law_names
  walk_at "gos"
  refine v_join (v_c ⟨_, rfl, v_lc (v_rng ?_)⟩)
  walk_at "gos"
  refine ⟨rfl, (take_ok h (by omega) (by decide) (by decide)).imp ?_⟩
  rintro _ M1 ⟨⟨x, rfl, x0, x1, hb1, kp1⟩⟩
  walk_at "gos"
  obtain ⟨m1, rfl⟩ := Int.eq_ofNat_of_zero_le x0
  refine ⟨m1, rfl, by omega, by simp; omega, (signs_ok hb1 (by omega) rfl rfl).imp ?_⟩
  rintro _ M2 ⟨⟨ss1, rfl, l1, u1⟩, hb2, kp2⟩
  refine ⟨ss1, rfl, join_cap u1 (by omega), ?_⟩
  have jl1 := join_len u1
  generalize Txt.join "" ss1 = ahead at jl1
  walk_at "gos"
  refine v_join (v_c ⟨_, rfl, v_lc (v_rng ?_)⟩)
  walk_at "gos"
  refine ⟨rfl, (take_ok hb2 (by omega) (by decide) (by decide)).imp ?_⟩
  rintro _ M3 ⟨⟨x, rfl, x0, x1, hb3, kp3⟩⟩
  walk_at "gos"
  obtain ⟨m2, rfl⟩ := Int.eq_ofNat_of_zero_le x0
  refine ⟨m2, rfl, by omega, by simp; omega, (signs_ok hb3 (by omega) rfl rfl).imp ?_⟩
  rintro _ M4 ⟨⟨ss2, rfl, l2, u2⟩, hb4, kp4⟩
  refine ⟨ss2, rfl, join_cap u2 (by omega), ?_⟩
  have jl2 := join_len u2
  generalize Txt.join "" ss2 = behind at jl2
  walk_at "gos"
  refine ⟨rfl, (take_ok hb4 (by omega) (by decide) (by decide)).imp ?_⟩
  rintro _ M5 ⟨⟨fi, rfl, f0, f1, hb5, kp5⟩⟩
  walk_at "gos"
  refine v_lc (v_rng ?_)
  walk_at "gos"
  refine ⟨k, rfl, by omega, by simp; omega, ?_⟩
  refine (v_lcL (fun rest acc M1 => ∃ ss : List Str, acc = ss.map D.str ∧ ss.length + rest.length = k ∧ (∀ s ∈ ss, s.length ≤ 8) ∧ M1 = M5 ∧ (∀ (q : Nat) (d : D), rest[q]? = some d → d = .int ((ss.length + q : Nat) : Int)) ∧
      ∀ (q : Nat) (s : Str), ss[q]? = some s → s.cps.toList[ahead.length]? = abcL[((fi + 5 * (q : Int)) % 26).toNat]?) _ ?_ [] ⟨[], rfl, by simp, by simp, rfl, ?_, by simp⟩).imp ?_
  · rintro d r acc M1 ⟨ss, rfl, hl, hs, rfl, hr, hq⟩
    obtain rfl : d = .int ((ss.length : Nat) : Int) := by simpa using hr 0 d rfl
    have hj : ss.length < 26 := by simp at hl; omega
    generalize ej : ss.length = j at hj
    refine v_gn (v_yes ?_)
    rw [if_pos rfl]
    walk_at "gos"
    refine ⟨_, mul_l (by decide) (by decide), ?_⟩
    walk_at "gos"
    refine ⟨_, mod_ii (by decide), ?_⟩
    obtain ⟨c, e, _⟩ := ix_in (l := ("abcdefghijklmnopqrstuvwxyz" : Str).cps.toList) (i := (fi + 5 * (j : Int)) % 26) (Int.emod_nonneg _ (by decide)) (Int.emod_lt_of_pos _ (by decide))
    refine ⟨.str ⟨#[c]⟩, by rw [ix_s (by decide), e]; rfl, ?_⟩
    have ec : abcL[((fi + 5 * (j : Int)) % 26).toNat]? = some c := by
      have h0 : 0 ≤ (fi + 5 * (j : Int)) % 26 := Int.emod_nonneg _ (by decide)
      have e2 := e
      rw [show (fi + 5 * (j : Int)) % 26 = ((((fi + 5 * (j : Int)) % 26).toNat : Nat) : Int) by omega, ix_nat] at e2
      exact e2
    have lc : (⟨#[c]⟩ : Str).length = 1 := rfl
    have lcc : (⟨#[c]⟩ : Str).cps.toList = [c] := rfl
    generalize (⟨#[c]⟩ : Str) = cs at lc lcc
    refine ⟨_, add_ss (small_line (by omega)), ?_⟩
    walk_at "gos"
    refine ⟨_, mod_ii (by decide), ?_⟩
    walk_at "gos"
    refine ⟨_, sl_s (small_line (by omega)), ?_⟩
    have cl : (cutS behind none (some ((j : Int) % 4))).length ≤ behind.length := cutS_length _ _ _
    refine ⟨_, add_ss (small_line (by rw [len_append]; omega)), ?_⟩
    refine ⟨ss ++ [ahead ++ cs ++ cutS behind none (some ((j : Int) % 4))], by simp, by simp at hl ⊢; omega, ?_, rfl, ?_, ?_⟩
    · intro s hs'
      rcases List.mem_append.mp hs' with q | q
      · exact hs s q
      · simp at q
        subst q
        rw [len_append, len_append]
        omega
    · intro q d hd
      have := hr (q + 1) d (by simpa using hd)
      rw [this, List.length_append, List.length_singleton]
      congr 2
      omega
    · intro q s hs'
      by_cases hlt : q < ss.length
      · rw [List.getElem?_append_left hlt] at hs'
        exact hq q s hs'
      · rw [List.getElem?_append_right (by omega)] at hs'
        have hz : q - ss.length = 0 := by
          have := (List.getElem?_eq_some_iff.mp hs').1
          simp at this
          omega
        rw [hz] at hs'
        simp at hs'
        subst hs'
        have eq : q = j := by omega
        subst eq
        rw [ec, cps_append, cps_append, lcc]
        have hla : ahead.length = ahead.cps.toList.length := by rw [Array.length_toList]; rfl
        rw [List.append_assoc, List.getElem?_append_right (by omega), hla]
        simp
  · intro q d hd
    rw [List.getElem?_map] at hd
    cases hq : (List.range k)[q]? with
    | none => rw [hq] at hd; cases hd
    | some z =>
      rw [hq] at hd
      have : z = q := by
        have := (List.getElem?_eq_some_iff.mp hq).2
        simpa using this.symm
      subst this
      simp at hd
      rw [← hd]
      simp
  · rintro r M1 ⟨ss, e, hl, hs, rfl, _, hq⟩
    simp at e hl
    subst e
    walk_at "gos"
    refine ⟨_, bsorted (by omega), ⟨srt ss, rfl, by rw [(srt_perm ss).length_eq]; exact hl, fun s q => hs s ((srt_perm ss).mem_iff.mp q), srt_up (names_nodup (by omega) hq), ⟨fun a ha => (names_pfx (by omega) hq).1 a ((srt_perm ss).mem_iff.mp ha), fun a ha b hb => (names_pfx (by omega) hq).2 a ((srt_perm ss).mem_iff.mp ha) b ((srt_perm ss).mem_iff.mp hb)⟩⟩, hb5.up (by omega) (by omega), (((kp1.trans kp2).trans kp3).trans kp4).trans kp5⟩
theorem names_up {M : Mem} {n : Nat} {N : Int} {k : Nat} (h : BagAt M n N) (hN : N + 10 < 2 ^ 40) (hk : k ≤ 26) : Gv (f_law_names [.ptr n, .int k] M) fun d M' => NamesUp k d ∧ BagAt M' n (N + 10) ∧ Kp n M M' := (names_pf h hN hk).imp fun _ _ ⟨⟨ss, e, h1, h2, h3, _⟩, hb, hk⟩ => ⟨⟨ss, e, h1, h2, h3⟩, hb, hk⟩

/-! ### == and in on sets of names -/
theorem depth_tup (o : List Str) : (tupP o).depth ≤ 60 := by
  simp [tupP, PyData.depth, depth_strs]
theorem depth_tups : ∀ l : List (List Str), PyData.depthAll (l.map tupP) ≤ 2
  | [] => by simp [PyData.depthAll]
  | a :: l => by
    have ih := depth_tups l
    simp only [List.map_cons, PyData.depthAll, tupP, PyData.depth, depth_strs]
    omega
theorem depth_sets (l : List (List Str)) : PyData.depth (.list (l.map tupP)) ≤ 60 := by
  have h := depth_tups l
  rw [PyData.depth]
  exact Nat.le_trans (Nat.succ_le_succ h) (by decide)
theorem eqv_strs : ∀ o u : List Str, PyData.eqvAll (o.map PyData.str) (u.map PyData.str) = decide (o = u)
  | [], [] => by simp [PyData.eqvAll]
  | [], _ :: _ => by simp [PyData.eqvAll]
  | _ :: _, [] => by simp [PyData.eqvAll]
  | a :: o, b :: u => by
    simp only [List.map_cons, PyData.eqvAll, PyData.eqv, eqv_strs o u]
    rw [Bool.eq_iff_iff]
    simp
theorem eqv_tup (o u : List Str) : PyData.eqv (tupP o) (tupP u) = decide (o = u) := by
  simp only [tupP, PyData.eqv, eqv_strs]
theorem eqv_sets : ∀ l : List (List Str), PyData.eqvAll (l.map tupP) (l.map tupP) = true
  | [] => by simp [PyData.eqvAll]
  | a :: l => by simp [PyData.eqvAll, eqv_tup, eqv_sets l]
theorem eq_ii {M : Mem} {i j : Int} : eqM false M (.int i) (.int j) = some (.bl (decide (i = j))) := by
  have h : (PyData.int i).depth ≤ 60 := by simp [PyData.depth]
  simp only [eqM, toPM, toP, Option.bind_some, h, if_true, PyData.eqv, Bool.false_eq_true, if_false]
  congr 2
theorem ne_nil {M : Mem} {o : List Str} : eqM true M (tupD o) (.tup []) = some (.bl (!o.isEmpty)) := by
  have h0 : toPM M (.tup []) = some (tupP []) := toP_tup []
  have h1 : toPM M (tupD o) = some (tupP o) := toP_tup o
  simp only [eqM, h1, h0, Option.bind_some, depth_tup, if_true, eqv_tup]
  cases o <;> simp
theorem ne_sets {M : Mem} {n : Nat} {l : List (List Str)} (h : M[n]? = some (.lst (l.map tupD))) : eqM true M (.ptr n) (.lst (l.map tupD)) = some (.bl false) := by
  have h1 : toPM M (.lst (l.map tupD)) = some (.list (l.map tupP)) := by simp [toPM, toP, toPs_map toP_tup]
  have h2 : toPM M (.ptr n) = some (.list (l.map tupP)) := by simp [toPM, h, toPs_map toP_tup]
  simp only [eqM, h1, h2, Option.bind_some, depth_sets, if_true, PyData.eqv, eqv_sets]
  rfl
theorem in_sets {M : Mem} {o : List Str} {l : List (List Str)} : dIn M (tupD o) (.lst (l.map tupD)) = some (.bl (decide (o ∈ l))) := by
  have h1 : toPM M (.lst (l.map tupD)) = some (.list (l.map tupP)) := by simp [toPM, toP, toPs_map toP_tup]
  have h2 : inD false M (tupD o) (.lst (l.map tupD)) = some (.bl (decide (o ∈ l))) := by
    simp only [inD, toP_tup, h1, Option.bind_some, depth_tup, if_true, Bool.false_eq_true, if_false]
    congr 2
    rw [List.any_map]
    rw [Bool.eq_iff_iff, List.any_eq_true, decide_eq_true_eq]
    constructor
    · rintro ⟨u, hu, e⟩
      have e : PyData.eqv (tupP u) (tupP o) = true := e
      rw [eqv_tup, decide_eq_true_eq] at e
      exact e ▸ hu
    · intro h
      exact ⟨o, h, by show PyData.eqv (tupP o) (tupP o) = true; rw [eqv_tup]; simp⟩
  have h3 : dInS M (tupD o) (.lst (l.map tupD)) = none := rfl
  have h4 : inF false M (tupD o) (.lst (l.map tupD)) = none := rfl
  simp only [dIn, oOr, h3, h4, h2]
theorem flat_strs : ∀ ss : List Str, flatDs (ss.map D.str) = some (ss.map V.str)
  | [] => rfl
  | a :: l => by simp [flatDs, flatD, flat_strs l]
theorem inV_strs {s : Str} : ∀ ss : List Str, L2.inV (.str s) (ss.map V.str) = decide (s ∈ ss)
  | [] => rfl
  | a :: l => by
    have ih := inV_strs (s := s) l
    unfold L2.inV at ih ⊢
    rw [List.map_cons, List.any_cons, ih]
    show (decide (a = s) || decide (s ∈ l)) = decide (s ∈ a :: l)
    by_cases h : a = s
    · subst h; simp
    · have h' : ¬ s = a := fun e => h e.symm
      simp [h, h']
theorem in_kinds {M : Mem} {s : Str} {ss : List Str} : dIn M (.str s) (.tup (ss.map D.str)) = some (.bl (decide (s ∈ ss))) := by
  have h1 : dInS M (.str s) (.tup (ss.map D.str)) = none := rfl
  have h2 : inF false M (.str s) (.tup (ss.map D.str)) = some (.bl (decide (s ∈ ss))) := by
    simp only [inF, flatD, seqD, asL, asT, Option.bind_some, flat_strs, Option.map_some, inV_strs, Bool.false_eq_true, if_false]
  simp only [dIn, oOr, h1, h2]
theorem eq_nil {M : Mem} {ds : List D} : dEq M (.tup ds) (.tup []) = some (.bl (decide (ds.length = 0))) := by
  unfold dEq oOr
  cases h : eqM false M (.tup ds) (.tup []) with
  | none => rfl
  | some z =>
    obtain ⟨p, q, h1, h2, _, rfl⟩ := eqM_some h
    have e2 : q = .tuple [] := by
      have : toPM M (.tup []) = some (.tuple []) := by simp [toPM, toP, toPs]
      rw [this] at h2
      exact (Option.some.inj h2).symm
    subst e2
    have h1' : (toPs ds).map PyData.tuple = some p := by
      have : toPM M (.tup ds) = (toPs ds).map PyData.tuple := by simp [toPM, toP]
      rw [← this]; exact h1
    cases hp : toPs ds with
    | none => rw [hp] at h1'; cases h1'
    | some ps =>
      rw [hp] at h1'
      simp at h1'
      subst h1'
      have hl := congrArg List.length (pD_map hp)
      rw [List.length_map] at hl
      simp only [Bool.false_eq_true, if_false, PyData.eqv]
      rw [hl]
      cases ps <;> simp [PyData.eqvAll]
/-! ### the bits of a number -/
def bitsL : Nat → Nat → List Nat
  | 0, _ => []
  | k + 1, m => m % 2 :: bitsL k (m / 2)
def pBit : D → Bool
  | .tup [_, .int b] => decide (b = 1)
  | _ => false
def hFst : D → D
  | .tup [a, _] => a
  | d => d
def hSnd : D → D
  | .tup [_, a] => a
  | d => d
theorem zip_bits : ∀ (ss : List Str) (k m : Nat), ss.length ≤ k → ((((ss.map D.str).zip ((bitsL k m).map fun b => D.int (b : Nat))).map fun q => D.tup [q.1, q.2]).filter pBit).map hFst = (ofN ss m).map D.str
  | [], _, _, _ => by simp [ofN]
  | s :: r, 0, _, h => by simp at h
  | s :: r, k + 1, m, h => by
    have ih := zip_bits r k (m / 2) (by simpa using h)
    simp only [List.map_cons, bitsL, List.zip_cons_cons]
    by_cases hb : m % 2 = 1
    · rw [List.filter_cons_of_pos (by simp [pBit, hb]), List.map_cons, ih, ofN, if_pos hb]
      rfl
    · rw [List.filter_cons_of_neg (by simp [pBit]; omega), ih, ofN, if_neg hb]
theorem bits5 (m : Nat) : bitsL 5 m = [m % 2, m / 2 % 2, m / 4 % 2, m / 8 % 2, m / 16 % 2] := by
  simp only [bitsL, Nat.div_div_eq_div_mul]
theorem bits_sum (n m : Nat) (hn : n ≤ 5) (hm : m < 32) : ((bitsL 5 m).drop n).sum = 0 ↔ m < 2 ^ n := by
  rw [bits5]
  match n, hn with
  | 0, _ => simp; omega
  | 1, _ => simp; omega
  | 2, _ => simp; omega
  | 3, _ => simp; omega
  | 4, _ => simp; omega
  | 5, _ => simp; omega
theorem bits_d (n : Nat) : [D.int ((n : Int) / 1 % 2), .int ((n : Int) / 2 % 2), .int ((n : Int) / 4 % 2), .int ((n : Int) / 8 % 2), .int ((n : Int) / 16 % 2)] = (bitsL 5 n).map fun b => D.int (b : Nat) := by
  rw [bits5]
  simp
theorem sum_d (l : List Nat) : asIs (l.map fun b => D.int (b : Nat)) = some (l.map fun b => ((b : Nat) : Int)) := by
  induction l with
  | nil => rfl
  | cons a l ih => simp [asIs, asI, ih]
theorem sum_cast : ∀ l : List Nat, (l.map fun b => ((b : Nat) : Int)).sum = ((l.sum : Nat) : Int)
  | [] => rfl
  | a :: l => by rw [List.map_cons, List.sum_cons, sum_cast l, List.sum_cons]; omega
theorem bsum_d {M : Mem} (l : List Nat) : bSum M [.lst (l.map fun b => D.int (b : Nat))] = some (.int ((l.sum : Nat) : Int)) := by
  simp only [bSum, one, asL, Option.bind_some, sum_d, Option.map_some, sum_cast]
theorem cut_from {α : Type} (l : List α) (n : Nat) : Dn.cutD l (some (n : Int)) none = l.drop n := by
  unfold Dn.cutD
  rw [HT.sIx_nat, HT.sIx_none]
  by_cases h : n ≤ l.length
  · rw [Nat.min_eq_left h, List.take_of_length_le (by rw [List.length_drop]; omega)]
  · rw [Nat.min_eq_right (by omega), List.drop_of_length_le (by omega), List.drop_of_length_le (by omega)]
    simp
/-- a number's turn -/
def hBit (n : Nat) : D → D
  | .int p => .int ((n : Int) / p % 2)
  | d => d
theorem law_sets_ok {M : Mem} {ss : List Str} (h5 : ss.length ≤ 5) : Gv (f_law_sets [.tup (ss.map D.str)] M) fun d M' => d = .lst ((setSort (sets1 ss)).map tupD) ∧ Gr M M' := by
  have h32 : 2 ^ ss.length ≤ 32 := Nat.pow_le_pow_right (by decide) h5
  refine v_body rfl ?_
  unfold b_law_sets
  walk_at "gos"
  refine v_for (PI := fun _ _ => True) (v_rng2 ?_)
  walk_at "gos"
  refine ⟨_, pow_ii ⟨by decide, by decide, pw_small (by decide)⟩, ?_⟩
  walk_at "gos"
  refine ⟨1, 32, rfl, by decide, by decide, ?_⟩
  refine v_forL (fun rest η M1 => ∃ q, q ≤ 31 ∧ rest = ((List.range 31).map fun k => D.int ((1 : Nat) + (k : Nat) : Int)).drop q ∧ (∃ a2 a3 a4 a5 a6 a7 a8, η = [some (.tup (ss.map D.str)), some (.ptr M.length), a2, a3, a4, a5, a6, a7, a8]) ∧
      M1 = M ++ [.lst ((((List.range (min q (2 ^ ss.length - 1))).map fun m => ofN ss (m + 1))).map keyDD)]) _ ⟨0, by decide, rfl, ⟨_, _, _, _, _, _, _, rfl⟩, by simp⟩ ?_ ?_
  · rintro d r η M1 ⟨q, hq, hr, ⟨a2, a3, a4, a5, a6, a7, a8, rfl⟩, rfl⟩
    have hq31 : q < 31 := by
      rcases Nat.lt_or_ge q 31 with h | h
      · exact h
      · rw [List.drop_of_length_le (by simp; omega)] at hr; cases hr
    rw [List.drop_eq_getElem_cons (by simp; omega)] at hr
    injection hr with hd hr
    have hd : d = .int ((q + 1 : Nat) : Int) := by
      rw [hd]
      simp
      omega
    subst hd
    refine v_gn ?_
    refine v_seq (v_asg (v_lc (v_sq ?_)))
    walk_at "gos"
    refine ⟨_, rfl, by simp, ?_⟩
    refine (v_lc_map (hBit (q + 1)) _ fun x hx => ?_).imp ?_
    · simp only [List.mem_cons, List.not_mem_nil, or_false] at hx
      refine v_gn (v_yes ⟨rfl, ?_⟩)
      rcases hx with rfl | rfl | rfl | rfl | rfl <;>
      · walk_at "gos"
        refine ⟨_, div_ii (by decide) (by decide), ?_⟩
        walk_at "gos"
        exact ⟨_, mod_ii (by decide), rfl, rfl⟩
    rintro r1 M2 ⟨rfl, rfl⟩
    have eb : [D.int 1, .int 2, .int 4, .int 8, .int 16].map (hBit (q + 1)) = (bitsL 5 (q + 1)).map fun b => D.int (b : Nat) := bits_d (q + 1)
    rw [eb]
    refine v_thn (v_ifS ?_)
    walk_at "gos"
    refine ⟨_, sl_l, ?_⟩
    have el : (((ss.map D.str).length : Nat) : Int) = ((ss.length : Nat) : Int) := by simp
    rw [el, cut_from, ← List.map_drop]
    walk_at "gos"
    refine ⟨_, bsum_d _, ?_⟩
    walk_at "gos"
    refine ⟨_, eq_ii, ?_⟩
    walk_at "gos"
    have hb := bits_sum ss.length (q + 1) h5 (by omega)
    have hM : (M ++ [Ob.lst ((((List.range (min q (2 ^ ss.length - 1))).map fun m => ofN ss (m + 1))).map keyDD)])[M.length]? = some (.lst ((((List.range (min q (2 ^ ss.length - 1))).map fun m => ofN ss (m + 1))).map keyDD)) := by simp
    by_cases hc : q + 1 < 2 ^ ss.length
    · rw [if_pos (by rw [decide_eq_true_eq]; have := hb.mpr hc; omega)]
      refine v_seq (v_asg ?_)
      walk_at "gos"
      refine v_lc (v_zipM ?_)
      walk_at "gos"
      refine ⟨_, _, rfl, by simp [bits5]; omega, ?_⟩
      refine (v_lc_fm pBit hFst _ fun x hx => ?_).imp ?_
      · obtain ⟨⟨u, v⟩, huv, rfl⟩ := List.mem_map.mp hx
        obtain ⟨hu, hv⟩ := List.of_mem_zip huv
        obtain ⟨s, _, rfl⟩ := List.mem_map.mp hu
        obtain ⟨b, _, rfl⟩ := List.mem_map.mp hv
        refine ⟨_, _, rfl, ?_⟩
        walk_at "gos"
        refine ⟨_, eq_ii, ?_⟩
        refine ⟨_, rfl, rfl, rfl, fun _ => ?_⟩
        walk_at "gos"
        exact ⟨rfl, rfl⟩
      rintro r2 M3 ⟨rfl, rfl⟩
      rw [zip_bits ss 5 (q + 1) h5]
      walk_at "gos"
      refine ⟨_, btuple_l, ?_⟩
      walk_at "gos"
      refine v_drop (v_append ?_)
      walk_at "gos"
      refine ⟨M.length, _, rfl, hM, ?_⟩
      walk_at "gos"
      refine ⟨_, hM, by simp; omega, q + 1, by omega, hr, ⟨_, _, _, _, _, _, _, rfl⟩, ?_⟩
      have e1 : min q (2 ^ ss.length - 1) = q := by omega
      have e2 : min (q + 1) (2 ^ ss.length - 1) = q + 1 := by omega
      rw [e1, e2, List.range_succ, List.map_append, List.map_append]
      have e3 : ((M ++ [Ob.lst ((((List.range q).map fun m => ofN ss (m + 1))).map keyDD)]).set M.length (.lst ((((List.range q).map fun m => ofN ss (m + 1))).map keyDD ++ [D.tup [.int (((ofN ss (q + 1)).map D.str).length : Nat), .tup ((ofN ss (q + 1)).map D.str)]]))) = M ++ [Ob.lst ((((List.range q).map fun m => ofN ss (m + 1))).map keyDD ++ [D.tup [.int (((ofN ss (q + 1)).map D.str).length : Nat), .tup ((ofN ss (q + 1)).map D.str)]])] := by simp
      rw [e3]
      simp [keyDD, tupD]
    · rw [if_neg (by rw [decide_eq_true_eq]; intro e; exact hc (hb.mp (by omega)))]
      walk_at "gos"
      have e1 : min q (2 ^ ss.length - 1) = 2 ^ ss.length - 1 := by omega
      have e2 : min (q + 1) (2 ^ ss.length - 1) = 2 ^ ss.length - 1 := by omega
      exact ⟨q + 1, by omega, hr, ⟨_, _, _, _, _, _, _, rfl⟩, by rw [e1, e2]⟩
  · rintro η M1 ⟨q, hq, hr, ⟨a2, a3, a4, a5, a6, a7, a8, rfl⟩, rfl⟩
    have hq31 : q = 31 := by
      rcases Nat.lt_or_ge q 31 with h | h
      · rw [List.drop_eq_getElem_cons (by simp; omega)] at hr; cases hr
      · omega
    subst hq31
    have e1 : min 31 (2 ^ ss.length - 1) = 2 ^ ss.length - 1 := by omega
    rw [e1]
    walk_at "gos"
    refine v_lc (v_sq ?_)
    walk_at "gos"
    refine ⟨_, bsort_sets (sets1 ss) (by simp [sets1]), ?_⟩
    have hl : (setSort (sets1 ss)).length = 2 ^ ss.length - 1 := by rw [(setSort_perm _).length_eq]; simp [sets1]
    refine ⟨_, rfl, by simp; omega, ?_⟩
    refine (v_lc_map hSnd _ fun x hx => ?_).imp ?_
    · obtain ⟨o, _, rfl⟩ := List.mem_map.mp hx
      refine ⟨_, _, rfl, ?_⟩
      refine v_yes ⟨rfl, ?_⟩
      walk_at "gos"
      exact ⟨rfl, rfl⟩
    rintro r3 M3 ⟨rfl, rfl⟩
    refine ⟨?_, Gr.app _ _⟩
    rw [List.map_map]
    rfl
theorem order_ok {M : Mem} {o : List Str} : Gv (f_set_order [tupD o] M) fun y M1 => y = keyDD o ∧ M1 = M := by
  refine v_body rfl ?_
  unfold b_set_order
  walk_at "gos"
  refine ⟨?_, rfl⟩
  simp [keyDD, tupD]
def hAdd (k : Str) : D → D
  | .tup l => .tup (l ++ [.str k])
  | d => d
def pNe : D → Bool
  | .tup l => !l.isEmpty
  | _ => false
theorem subs_len (ss : List Str) : (subsN ss).length = 2 ^ ss.length := by simp [subsN]
theorem ofN_le (ss : List Str) (m : Nat) : (ofN ss m).length ≤ ss.length := (ofN_sub ss m).length_le
theorem mem_subs {ss o : List Str} (h : o ∈ subsN ss) : o.length ≤ ss.length := by
  obtain ⟨m, _, rfl⟩ := List.mem_map.mp h
  exact ofN_le ss m
def hKey : D → D
  | .tup l => .tup [.int l.length, .tup l]
  | d => d
theorem sets_of_ok {M : Mem} {ss : List Str} (h5 : ss.length ≤ 5) : Gv (f_sets_of [.tup (ss.map D.str)] M) fun d M' => d = .lst ((setSort (sets1 ss)).map tupD) ∧ M' = M := by
  refine v_body rfl ?_
  unfold b_sets_of
  walk_at "gos"
  refine v_for (PI := fun _ _ => True) (v_sq ?_)
  walk_at "gos"
  refine ⟨_, rfl, ?_⟩
  refine v_forL (fun rest η M1 => ∃ j, j ≤ ss.length ∧ rest = (ss.map D.str).drop j ∧ (∃ a2 a3, η = [some (.tup (ss.map D.str)), some (.lst ((subsN (ss.take j)).map tupD)), a2, a3]) ∧ M1 = M) _ ⟨0, Nat.zero_le _, rfl, ⟨none, none, rfl⟩, rfl⟩ ?_ ?_
  · rintro d r η M1 ⟨j, hj, hr, ⟨a2, a3, rfl⟩, rfl⟩
    have hjl : j < ss.length := by
      rcases Nat.lt_or_ge j ss.length with h | h
      · exact h
      · rw [List.drop_of_length_le (by simp; omega)] at hr; cases hr
    rw [List.drop_eq_getElem_cons (by simp; omega)] at hr
    injection hr with hd hr
    rw [List.getElem_map] at hd
    subst hd
    have ht : (ss.take j).length = j := by rw [List.length_take]; omega
    have hp : 2 ^ j ≤ 16 := Nat.pow_le_pow_right (by decide) (show j ≤ 4 by omega)
    refine v_gn ?_
    walk_at "gos"
    refine v_lc (v_sq ?_)
    walk_at "gos"
    refine ⟨_, rfl, by rw [List.length_map, subs_len, ht]; omega, ?_⟩
    refine (v_lc_map (hAdd ss[j]) _ fun x hx => ?_).imp ?_
    · obtain ⟨o, ho, rfl⟩ := List.mem_map.mp hx
      have hol := mem_subs ho
      refine v_gn (v_yes ⟨rfl, ?_⟩)
      walk_at "gos"
      exact ⟨_, add_tt (small_line (by simp; omega)), rfl, rfl⟩
    rintro r1 M2 ⟨rfl, rfl⟩
    refine ⟨_, add_ll (small_line (by rw [List.length_map, List.length_map, List.length_map, subs_len, ht]; omega)), ?_⟩
    refine ⟨j + 1, by omega, hr, ?_, rfl⟩
    have e1 : ss.take (j + 1) = ss.take j ++ [ss[j]] := by rw [List.take_succ_eq_append_getElem hjl]
    have e2 : (subsN (ss.take (j + 1))).map tupD = (subsN (ss.take j)).map tupD ++ ((subsN (ss.take j)).map tupD).map (hAdd ss[j]) := by
      rw [e1, subsN_snoc, List.map_append, List.map_map, List.map_map]
      congr 1
      refine List.map_congr_left fun o _ => ?_
      simp [tupD, hAdd]
    rw [e2]
    exact ⟨_, _, rfl⟩
  · rintro η M1 ⟨j, hj, hr, ⟨a2, a3, rfl⟩, rfl⟩
    have hjl : j = ss.length := by
      rcases Nat.lt_or_ge j ss.length with h | h
      · rw [List.drop_eq_getElem_cons (by simp; omega)] at hr; cases hr
      · omega
    subst hjl
    rw [List.take_length]
    walk_at "gos"
    refine v_sortKF (v_lc (v_sq ?_))
    walk_at "gos"
    have hp : 2 ^ ss.length ≤ 32 := Nat.pow_le_pow_right (by decide) h5
    refine ⟨_, rfl, by rw [List.length_map, subs_len]; omega, ?_⟩
    refine (v_lc_fm pNe id _ fun x hx => ?_).imp ?_
    · obtain ⟨o, ho, rfl⟩ := List.mem_map.mp hx
      refine v_gn ?_
      walk_at "gos"
      refine ⟨_, ne_nil, ?_⟩
      walk_at "gos"
      refine ⟨?_, rfl, fun _ => ?_⟩
      · simp [pNe, tupD]
      · walk_at "gos"
        exact ⟨rfl, rfl⟩
    rintro r1 M2 ⟨rfl, rfl⟩
    have e1 : (((subsN ss).map tupD).filter pNe).map id = (sets1 ss).map tupD := by
      rw [List.map_id, List.filter_map, ← subs_filter]
      congr 1
      refine List.filter_congr fun o _ => ?_
      simp [pNe, tupD]
    rw [e1]
    refine ⟨_, rfl, (keys_map hKey _ fun x hx => ?_).imp ?_⟩
    · obtain ⟨o, _, rfl⟩ := List.mem_map.mp hx
      refine order_ok.imp ?_
      rintro _ _ ⟨rfl, rfl⟩
      exact ⟨by simp [keyDD, hKey, tupD], rfl⟩
    rintro ks M3 ⟨rfl, rfl⟩
    have e2 : ((sets1 ss).map tupD).map hKey = (sets1 ss).map keyDD := by
      rw [List.map_map]
      refine List.map_congr_left fun o _ => ?_
      simp [keyDD, hKey, tupD]
    rw [e2]
    exact ⟨_, sortK_sets _, rfl, rfl⟩
def Fine1 : D → Prop
  | .str s => s.length ≤ 1000
  | .raw _ => False
  | .scr _ => False
  | .ptr _ => False
  | .dcT _ => False
  | .ins _ _ => False
  | .fn _ => False
  | _ => True
def Fine (d : D) : Prop := Fine1 d ∧ ∀ ds, d = .tup ds → ds.length ≤ 1000 ∧ ∀ x ∈ ds, Fine1 x
def isS : D → Bool
  | .str _ => true
  | _ => false
def isT : D → Bool
  | .tup _ => true
  | _ => false
theorem isi_s {M : Mem} {d : D} (h : Fine1 d) : bIsi M [d, .raw (.ty "str")] = some (.bl (isS d)) := by
  cases d with
  | raw _ => exact h.elim
  | scr _ => exact h.elim
  | ptr _ => exact h.elim
  | dcT _ => exact h.elim
  | ins _ _ => exact h.elim
  | fn _ => exact h.elim
  | non => simp only [bIsi, two, tyN, Option.bind_some, show kitB "NoneType" "str" = some false by decide +kernel]; rfl
  | bl _ => simp only [bIsi, two, tyN, Option.bind_some, show kitB "bool" "str" = some false by decide +kernel]; rfl
  | int _ => simp only [bIsi, two, tyN, Option.bind_some, show kitB "int" "str" = some false by decide +kernel]; rfl
  | str _ => simp only [bIsi, two, tyN, Option.bind_some, show kitB "str" "str" = some true by decide +kernel]; rfl
  | lst _ => simp only [bIsi, two, tyN, Option.bind_some, show kitB "list" "str" = some false by decide +kernel]; rfl
  | tup _ => simp only [bIsi, two, tyN, Option.bind_some, show kitB "tuple" "str" = some false by decide +kernel]; rfl
  | dct _ => simp only [bIsi, two, tyN, Option.bind_some, show kitB "dict" "str" = some false by decide +kernel]; rfl
theorem isi_t {M : Mem} {d : D} (h : Fine1 d) : bIsi M [d, .raw (.ty "tuple")] = some (.bl (isT d)) := by
  cases d with
  | raw _ => exact h.elim
  | scr _ => exact h.elim
  | ptr _ => exact h.elim
  | dcT _ => exact h.elim
  | ins _ _ => exact h.elim
  | fn _ => exact h.elim
  | non => simp only [bIsi, two, tyN, Option.bind_some, show kitB "NoneType" "tuple" = some false by decide +kernel]; rfl
  | bl _ => simp only [bIsi, two, tyN, Option.bind_some, show kitB "bool" "tuple" = some false by decide +kernel]; rfl
  | int _ => simp only [bIsi, two, tyN, Option.bind_some, show kitB "int" "tuple" = some false by decide +kernel]; rfl
  | str _ => simp only [bIsi, two, tyN, Option.bind_some, show kitB "str" "tuple" = some false by decide +kernel]; rfl
  | lst _ => simp only [bIsi, two, tyN, Option.bind_some, show kitB "list" "tuple" = some false by decide +kernel]; rfl
  | tup _ => simp only [bIsi, two, tyN, Option.bind_some, show kitB "tuple" "tuple" = some true by decide +kernel]; rfl
  | dct _ => simp only [bIsi, two, tyN, Option.bind_some, show kitB "dict" "tuple" = some false by decide +kernel]; rfl
theorem isi_b {M : Mem} {b : Bool} : bIsi M [.bl b, .raw (.ty "bool")] = some (.bl true) := by
  simp only [bIsi, two, tyN, Option.bind_some, show kitB "bool" "bool" = some true by decide +kernel]; rfl
theorem cut_mem {α : Type} {l : List α} {lo hi : Option Int} {x : α} (h : x ∈ Dn.cutD l lo hi) : x ∈ l := List.mem_of_mem_drop (List.mem_of_mem_take h)
theorem cut_len {α : Type} {l : List α} {lo hi : Option Int} : (Dn.cutD l lo hi).length ≤ l.length := by
  unfold Dn.cutD
  rw [List.length_take, List.length_drop]
  omega
def fine1b : D → Bool
  | .str s => decide (s.length ≤ 1000)
  | .raw _ => false
  | .scr _ => false
  | .ptr _ => false
  | .dcT _ => false
  | .ins _ _ => false
  | .fn _ => false
  | _ => true
def fineb (d : D) : Bool := fine1b d && match d with
  | .tup ds => decide (ds.length ≤ 1000) && ds.all fine1b
  | _ => true
theorem fine1_of {d : D} (h : fine1b d = true) : Fine1 d := by
  cases d <;> simp_all [fine1b, Fine1]
theorem fine_of {d : D} (h : fineb d = true) : Fine d := by
  unfold fineb at h
  rw [Bool.and_eq_true] at h
  refine ⟨fine1_of h.1, fun ds e => ?_⟩
  subst e
  have h2 := h.2
  simp only [Bool.and_eq_true, decide_eq_true_eq] at h2
  exact ⟨h2.1, fun x hx => fine1_of (List.all_eq_true.mp h2.2 x hx)⟩
/-! ### what is a set -/
abbrev ltS (a b : Str) : Prop := a.cps.toList < b.cps.toList
theorem ltS_trans {a b c : Str} (h : ltS a b) (h' : ltS b c) : ltS a c := List.lt_trans h h'
theorem ltS_irr {a : Str} (h : ltS a a) : False := List.lt_irrefl _ h
theorem sub_up {ss : List Str} (h : ss.Pairwise ltS) : ∀ {ts : List Str}, ts.Pairwise ltS → (∀ t ∈ ts, t ∈ ss) → ts.Sublist ss := by
  induction ss with
  | nil =>
    intro ts _ hs
    cases ts with
    | nil => exact .slnil
    | cons t ts => exact absurd (hs t (List.mem_cons_self ..)) (by simp)
  | cons a r ih =>
    intro ts ht hs
    obtain ⟨ha, hr⟩ := List.pairwise_cons.mp h
    cases ts with
    | nil => exact List.nil_sublist _
    | cons t ts =>
      obtain ⟨h1, h2⟩ := List.pairwise_cons.mp ht
      by_cases e : t = a
      · subst e
        refine (ih hr h2 fun u hu => ?_).cons₂ t
        rcases List.mem_cons.mp (hs u (List.mem_cons_of_mem _ hu)) with q | q
        · subst q; exact (ltS_irr (h1 _ hu)).elim
        · exact q
      · have hta : t ∈ r := (List.mem_cons.mp (hs t (List.mem_cons_self ..))).resolve_left e
        refine (ih hr ht fun u hu => ?_).cons a
        rcases List.mem_cons.mp (hs u hu) with q | q
        · subst q
          rcases List.mem_cons.mp hu with q2 | q2
          · exact absurd q2.symm e
          · exact (ltS_irr (ltS_trans (h1 _ q2) (ha _ hta))).elim
        · exact q
def risesS (ts : List Str) : Bool := (ts.zip (ts.drop 1)).all fun q => decide (ltS q.1 q.2)
theorem rises_pw : ∀ ts : List Str, risesS ts = true ↔ ts.Pairwise ltS
  | [] => by simp [risesS]
  | [a] => by simp [risesS]
  | a :: b :: r => by
    have ih := rises_pw (b :: r)
    have e : risesS (a :: b :: r) = (decide (ltS a b) && risesS (b :: r)) := by simp [risesS]
    rw [e, Bool.and_eq_true, ih, decide_eq_true_eq]
    constructor
    · rintro ⟨h1, h2⟩
      refine List.pairwise_cons.mpr ⟨fun c hc => ?_, h2⟩
      rcases List.mem_cons.mp hc with q | q
      · subst q; exact h1
      · exact ltS_trans h1 ((List.pairwise_cons.mp h2).1 c q)
    · intro h
      exact ⟨(List.pairwise_cons.mp h).1 b (List.mem_cons_self ..), (List.pairwise_cons.mp h).2⟩
def SetOf (ss : List Str) (d : D) : Prop := ∃ ts, d = tupD ts ∧ ts ≠ [] ∧ ts.Sublist ss
open Classical in
noncomputable def setB (ss : List Str) (d : D) : Bool := decide (SetOf ss d)
open Classical in
theorem setB_no {ss : List Str} {d : D} (h : ¬ SetOf ss d) : setB ss d = false := by unfold setB; exact decide_eq_false h
open Classical in
theorem setB_yes {ss : List Str} {d : D} {b : Bool} (h : SetOf ss d ↔ b = true) : setB ss d = b := by
  unfold setB
  cases b with
  | true => exact decide_eq_true (h.mpr rfl)
  | false => exact decide_eq_false fun q => absurd (h.mp q) (by decide)
theorem tupD_inj {ts us : List Str} (h : tupD ts = tupD us) : ts = us := by
  unfold tupD at h
  injection h with h
  exact (List.map_inj_right (f := D.str) fun a b e => by injection e).mp h
theorem strs_of : ∀ {ds : List D}, ds.all isS = true → ∃ ts : List Str, ds = ts.map D.str
  | [], _ => ⟨[], rfl⟩
  | d :: ds, h => by
    rw [List.all_cons, Bool.and_eq_true] at h
    obtain ⟨ts, rfl⟩ := strs_of h.2
    have : ∃ s, d = .str s := by
      have h1 := h.1
      cases d <;> first | exact ⟨_, rfl⟩ | (simp [isS] at h1)
    obtain ⟨s, rfl⟩ := this
    exact ⟨s :: ts, rfl⟩
def hLt : D → D
  | .tup [.str a, .str b] => .bl (decide (ltS a b))
  | d => d
theorem rising_ok {M : Mem} {ts : List Str} (hl : ts.length ≤ 1000) : Gv (f_is_rising [tupD ts] M) fun r M' => r = .bl (risesS ts) ∧ M' = M := by
  refine v_body rfl ?_
  unfold b_is_rising
  walk_at "gos"
  refine v_lc (v_zipT ?_)
  walk_at "gos"
  refine ⟨_, sl_t, ?_⟩
  walk_at "gos"
  have ec : Dn.cutD (ts.map D.str) (some (1 : Int)) none = (ts.drop 1).map D.str := by
    rw [show (1 : Int) = ((1 : Nat) : Int) from rfl, cut_from, List.map_drop]
  rw [ec]
  refine ⟨_, _, rfl, by simp; omega, ?_⟩
  refine (v_lc_map hLt _ ?_).imp ?_
  · intro q hq
    obtain ⟨⟨a, b⟩, hab, rfl⟩ := List.mem_map.mp hq
    obtain ⟨ha, hb⟩ := List.of_mem_zip hab
    obtain ⟨s, _, rfl⟩ := List.mem_map.mp ha
    obtain ⟨t, _, rfl⟩ := List.mem_map.mp hb
    refine ⟨_, _, rfl, ?_⟩
    refine v_yes ⟨rfl, ?_⟩
    walk_at "gos"
    exact ⟨_, lt_ss, rfl, rfl⟩
  · rintro r M1 ⟨rfl, rfl⟩
    walk_at "gos"
    have e : (((ts.map D.str).zip ((ts.drop 1).map D.str)).map fun q => D.tup [q.1, q.2]).map hLt = (ts.zip (ts.drop 1)).map fun q => D.bl (decide (ltS q.1 q.2)) := by
      have gen : ∀ (l m : List Str), (((l.map D.str).zip (m.map D.str)).map fun q => D.tup [q.1, q.2]).map hLt = (l.zip m).map fun q => D.bl (decide (ltS q.1 q.2)) := by
        intro l
        induction l with
        | nil => intro m; rfl
        | cons a l ih =>
          intro m
          cases m with
          | nil => rfl
          | cons b m =>
            rw [List.map_cons, List.map_cons, List.zip_cons_cons, List.zip_cons_cons, List.map_cons, List.map_cons, List.map_cons, ih m]
            rfl
      exact gen _ _
    rw [e]
    exact ⟨_, ball_map, rfl, rfl⟩
def inB (ss : List Str) : D → Bool
  | .str s => decide (s ∈ ss)
  | _ => false
theorem prog_set_ok {M : Mem} {ss : List Str} {d : D} (hup : ss.Pairwise ltS) (h : Fine d) : Gv (f_is_set [.tup (ss.map D.str), d] M) fun r M' => r = .bl (setB ss d) ∧ M' = M := by
  refine v_body rfl ?_
  unfold b_is_set
  walk_at "gos"
  refine v_ifS ?_
  walk_at "gos"
  refine ⟨_, isi_t h.1, ?_⟩
  walk_at "gos"
  by_cases hs : ∃ ds, d = .tup ds
  · obtain ⟨ds, rfl⟩ := hs
    obtain ⟨hl, hf⟩ := h.2 ds rfl
    refine iteF ?_
    walk_at "gos"
    refine ⟨_, eq_ii, ?_⟩
    walk_at "gos"
    by_cases c0 : ds.length = 0
    · rw [if_pos (by rw [decide_eq_true_eq]; omega)]
      walk_at "gos"
      refine ⟨?_, rfl⟩
      rw [setB_no]
      rintro ⟨ts, e, h1, _⟩
      unfold tupD at e
      injection e with e
      subst e
      exact h1 (List.eq_nil_of_length_eq_zero (by simpa using c0))
    · rw [if_neg (by rw [decide_eq_true_eq]; omega)]
      walk_at "gos"
      refine v_lc (v_sq (v_var rfl ⟨_, rfl, by omega, ?_⟩))
      refine (v_lc_map (fun x => .bl (inB ss x)) _ fun x hx => ?_).imp ?_
      · refine v_gn (v_yes ⟨rfl, ?_⟩)
        walk_at "gos"
        refine ⟨_, isi_s (hf x hx), ?_⟩
        walk_at "gos"
        by_cases hxs : ∃ s, x = .str s
        · obtain ⟨s, rfl⟩ := hxs
          refine iteT ?_
          walk_at "gos"
          exact ⟨_, in_kinds, rfl, rfl⟩
        · have hn : isS x = false := by cases x <;> first | rfl | exact absurd ⟨_, rfl⟩ hxs
          have hb : inB ss x = false := by cases x <;> first | rfl | exact absurd ⟨_, rfl⟩ hxs
          rw [hn, hb]
          exact iteF ⟨rfl, rfl⟩
      rintro r M1 ⟨rfl, rfl⟩
      walk_at "gos"
      refine ⟨_, ball_map, _, rfl, ?_⟩
      by_cases c3 : ds.all (inB ss) = true
      · rw [if_pos c3]
        have hS : ds.all isS = true := List.all_eq_true.mpr fun x hx => by
          have := List.all_eq_true.mp c3 x hx
          cases x <;> first | rfl | (simp [inB] at this)
        obtain ⟨ts, rfl⟩ := strs_of hS
        walk_at "gos"
        refine ⟨rfl, (rising_ok (ts := ts) (by simpa using hl)).imp ?_⟩
        rintro r M1 ⟨rfl, rfl⟩
        refine ⟨?_, rfl⟩
        have hin : ∀ t ∈ ts, t ∈ ss := fun t ht => by
          have := List.all_eq_true.mp c3 (.str t) (List.mem_map.mpr ⟨t, ht, rfl⟩)
          simpa [inB] using this
        rw [setB_yes]
        rw [rises_pw]
        constructor
        · rintro ⟨us, e, h1, h2⟩
          have : ts = us := tupD_inj e
          subst this
          exact hup.sublist h2
        · intro hp
          exact ⟨ts, rfl, fun e => c0 (by rw [e]; rfl), sub_up hup hp hin⟩
      · rw [if_neg c3]
        refine ⟨?_, rfl⟩
        rw [setB_no]
        rintro ⟨ts, e, h1, h2⟩
        unfold tupD at e
        injection e with e
        subst e
        refine c3 (List.all_eq_true.mpr fun x hx => ?_)
        obtain ⟨t, ht, rfl⟩ := List.mem_map.mp hx
        simpa [inB] using h2.subset ht
  · have hn : isT d = false := by cases d <;> first | rfl | exact absurd ⟨_, rfl⟩ hs
    rw [hn]
    refine iteT (iteT ?_)
    walk_at "gos"
    refine ⟨?_, rfl⟩
    rw [setB_no]
    rintro ⟨ts, e, _⟩
    exact hs ⟨_, e⟩
structure Kinds (ss : List Str) : Prop where
  le : ss.length ≤ 5
  ge : 1 ≤ ss.length
  sh : ∀ s ∈ ss, s.length ≤ 8
  up : ss.Pairwise ltS
theorem kinds_ok {M : Mem} {n : Nat} {N : Int} (h : BagAt M n N) (hN : N + 11 < 2 ^ 40) : Gv (f_law_kinds [.ptr n] M) fun d M' => (∃ ss, d = .tup (ss.map D.str) ∧ Kinds ss) ∧ BagAt M' n (N + 11) ∧ Kp n M M' := by
  refine v_body rfl ?_
  unfold b_law_kinds
  walk_at "gos"
  refine ⟨rfl, (take_ok h (by omega) (by decide) (by decide)).imp ?_⟩
  rintro _ M1 ⟨⟨x, rfl, x0, x1, hb1, kp1⟩⟩
  walk_at "gos"
  obtain ⟨q, rfl⟩ := Int.eq_ofNat_of_zero_le x0
  have eq1 : (1 : Int) + (q : Int) = ((q + 1 : Nat) : Int) := by omega
  rw [eq1]
  refine ⟨rfl, (names_up hb1 (by omega) (by omega)).imp ?_⟩
  rintro _ M2 ⟨⟨ss, rfl, hl, hs, hu⟩, hb2, kp2⟩
  walk_at "gos"
  exact ⟨_, btuple_l, ⟨ss, rfl, by omega, by omega, hs, hu⟩, hb2.up (by omega) (by omega), kp1.trans kp2⟩
theorem fine_tup {ds : List D} (h1 : ds.length ≤ 1000) (h2 : ∀ x ∈ ds, Fine1 x) : Fine (.tup ds) := ⟨trivial, fun cs e => by cases e; exact ⟨h1, h2⟩⟩
theorem fine_strs {ts : List Str} (h : ∀ t ∈ ts, t.length ≤ 8) : ∀ x ∈ ts.map D.str, Fine1 x := fun x hx => by
  obtain ⟨t, ht, rfl⟩ := List.mem_map.mp hx
  exact Nat.le_trans (h t ht) (by decide)
theorem isi_lp {M : Mem} {n : Nat} {ds : List D} (h : M[n]? = some (.lst ds)) : bIsi M [.ptr n, .raw (.ty "list")] = some (.bl true) := by
  simp only [bIsi, two, tyN, h, Option.bind_some, show kitB "list" "list" = some true by decide +kernel]; rfl

/-! ### tables -/
noncomputable def setS (ss : List Str) : List (List Str) := setSort (sets1 ss)
theorem mem_setS {ss o : List Str} : o ∈ setS ss ↔ o ≠ [] ∧ o.Sublist ss := by
  unfold setS
  rw [(setSort_perm _).mem_iff, mem_sets1]
theorem setS_len {ss : List Str} (h : ss.length ≤ 5) : (setS ss).length ≤ 31 := by
  unfold setS
  rw [(setSort_perm _).length_eq]
  have : 2 ^ ss.length ≤ 32 := Nat.pow_le_pow_right (by decide) h
  simp [sets1]
  omega
theorem setS_len1 {ss : List Str} (h : 1 ≤ ss.length) : 1 ≤ (setS ss).length := by
  unfold setS
  rw [(setSort_perm _).length_eq]
  have : 2 ^ 1 ≤ 2 ^ ss.length := Nat.pow_le_pow_right (by decide) h
  simp [sets1]
  omega
def keyS (o : List Str) : List L2.Key := o.map Sum.inr
theorem keyS_inj {o u : List Str} (h : keyS o = keyS u) : o = u := (List.map_inj_right (f := fun s : Str => (Sum.inr s : L2.Key)) fun a b e => by injection e).mp h
theorem asKs_strs : ∀ o : List Str, asKs (o.map D.str) = some (keyS o)
  | [] => rfl
  | a :: l => by simp [asKs, asK1, asKs_strs l, keyS]
theorem asKey_tup {o : List Str} (h : o ≠ []) : asKey (tupD o) = some (keyS o) := by
  cases o with
  | nil => exact absurd rfl h
  | cons a l => exact asKs_strs (a :: l)
theorem k1D_keyS (o : List Str) : D.tup ((keyS o).map k1D) = tupD o := by
  unfold keyS tupD
  rw [List.map_map]
  rfl
/-- amounts at all sets -/
noncomputable def amF (ss : List Str) (g : List Str → Int) : List (List L2.Key × D) := (setS ss).map fun o => (keyS o, .int (g o))
noncomputable def tabF (ss : List Str) (g : List Str → Int) : D := .ins "Table" [("kinds", .tup (ss.map D.str)), ("amounts", .dcT (amF ss g))]
theorem valD_map {α : Type} {l : List α} {kf : α → List L2.Key} {vf : α → D} {k : List L2.Key} {v : D} (h1 : ∀ a ∈ l, kf a = k → vf a = v) (h2 : ∃ a ∈ l, kf a = k) : valD (l.map fun a => (kf a, vf a)) k = some v := by
  induction l with
  | nil => obtain ⟨a, ha, _⟩ := h2; simp at ha
  | cons a l ih =>
    by_cases e : kf a = k
    · simp [valD, List.find?_cons, e, h1 a (List.mem_cons_self ..) e]
    · have := ih (fun b hb => h1 b (List.mem_cons_of_mem _ hb)) (by
        obtain ⟨b, hb, eb⟩ := h2
        rcases List.mem_cons.mp hb with rfl | hb
        · exact absurd eb e
        · exact ⟨b, hb, eb⟩)
      simpa [valD, List.find?_cons, e] using this
theorem valD_am {ss o : List Str} {g : List Str → Int} (h : o ∈ setS ss) : valD (amF ss g) (keyS o) = some (.int (g o)) :=
  valD_map (fun a _ e => by rw [keyS_inj e]) ⟨o, h, rfl⟩
theorem putD_am {ss o : List Str} {g : List Str → Int} {v : Int} (h : o ∈ setS ss) : putD (amF ss g) (keyS o) (.int v) = amF ss (fun u => if u = o then v else g u) := by
  unfold putD
  rw [if_pos]
  · unfold amF
    rw [List.map_map]
    refine List.map_congr_left fun u _ => ?_
    simp only [Function.comp]
    by_cases e : u = o
    · subst e; simp
    · rw [if_neg (fun z => e (keyS_inj z)), if_neg e]
  · rw [List.any_eq_true]
    exact ⟨(keyS o, .int (g o)), List.mem_map.mpr ⟨o, h, rfl⟩, by simp⟩
def lastV : List (List Str × Int) → (List Str → Int) → List Str → Int
  | [], g => g
  | r :: rs, g => lastV rs (fun u => if u = r.1 then r.2 else g u)
def rowD (r : List Str × Int) : D := .tup [tupD r.1, .int r.2]
theorem ofN_inj : ∀ {ss : List Str}, ss.Nodup → ∀ {m m' : Nat}, m < 2 ^ ss.length → m' < 2 ^ ss.length → ofN ss m = ofN ss m' → m = m'
  | [], _, m, m', h, h', _ => by simp at h h'; omega
  | s :: r, hn, m, m', h, h', e => by
    obtain ⟨h1, h2⟩ := List.nodup_cons.mp hn
    rw [List.length_cons, Nat.pow_succ] at h h'
    have no : ∀ q, ofN r q ≠ s :: ofN r (m / 2) ∧ ofN r q ≠ s :: ofN r (m' / 2) := fun q => by
      constructor <;> intro z <;> exact h1 ((ofN_sub r q).subset (by rw [z]; exact List.mem_cons_self ..))
    unfold ofN at e
    by_cases c : m % 2 = 1
    · by_cases c' : m' % 2 = 1
      · rw [if_pos c, if_pos c'] at e
        have := ofN_inj h2 (by omega) (by omega) (List.cons.inj e).2
        omega
      · rw [if_pos c, if_neg c'] at e
        exact absurd e.symm (no _).1
    · by_cases c' : m' % 2 = 1
      · rw [if_neg c, if_pos c'] at e
        exact absurd e (no _).2
      · rw [if_neg c, if_neg c'] at e
        have := ofN_inj h2 (by omega) (by omega) e
        omega
theorem setS_nodup {ss : List Str} (h : ss.Nodup) : (setS ss).Nodup := by
  unfold setS
  rw [(setSort_perm _).nodup_iff]
  unfold sets1
  rw [List.Nodup, List.pairwise_map]
  refine List.Pairwise.imp_of_mem ?_ List.nodup_range
  intro a b ha hb hab e
  have h1 := List.mem_range.mp ha
  have h2 := List.mem_range.mp hb
  have := ofN_inj h (show a + 1 < _ by omega) (show b + 1 < _ by omega) e
  omega
theorem Kinds.nodup {ss : List Str} (K : Kinds ss) : ss.Nodup := K.up.imp fun {a b} h e => by
  subst e
  exact ltS_irr h
theorem putD_new {acc : List (List L2.Key × D)} {k : List L2.Key} {v : D} (h : ∀ q ∈ acc, q.1 ≠ k) : putD acc k v = acc ++ [(k, v)] := by
  unfold putD
  rw [if_neg]
  rw [List.any_eq_true]
  rintro ⟨q, hq, e⟩
  exact h q hq (by simpa using e)
def kOf (d : D) : List L2.Key := (asKey d).getD []
theorem kOf_tup {o : List Str} (h : o ≠ []) : kOf (tupD o) = keyS o := by simp [kOf, asKey_tup h]
theorem foldl_put (vv : D → D) : ∀ (l : List (List Str)) (acc : List (List L2.Key × D)), (∀ o ∈ l, o ≠ []) → (∀ o ∈ l, ∀ q ∈ acc, q.1 ≠ keyS o) → l.Nodup → (l.map tupD).foldl (fun a d => putD a (kOf d) (vv d)) acc = acc ++ l.map fun o => (keyS o, vv (tupD o))
  | [], acc, _, _, _ => by simp
  | o :: l, acc, h0, h1, hn => by
    obtain ⟨n1, n2⟩ := List.nodup_cons.mp hn
    rw [List.map_cons, List.foldl_cons, kOf_tup (h0 o (List.mem_cons_self ..)), putD_new (h1 o (List.mem_cons_self ..)), foldl_put vv l _ (fun u hu => h0 u (List.mem_cons_of_mem _ hu)) ?_ n2]
    · simp
    · intro u hu q hq
      rcases List.mem_append.mp hq with hq | hq
      · exact h1 u (List.mem_cons_of_mem _ hu) q hq
      · simp at hq
        subst hq
        exact fun e => n1 (by rw [keyS_inj e]; exact hu)
theorem v_fldI {M : Mem} {η : Dv} {P : D → Mem → Prop} {x fl : Str} {i : Nat} {fs : List (Str × D)} {v : D} (h : η[i]? = some (some (.ins x fs))) (hl : fs.lookup fl = some v) (hp : P v M) : Gv (xFld x fl (xVar i) η M) P := v_fld (v_var h ⟨fs, v, rfl, hl, hp⟩)
theorem v_fldP {M : Mem} {η : Dv} {P : D → Mem → Prop} {x fl : Str} {i n : Nat} {fs : List (Str × D)} {v : D} (h : η[i]? = some (some (.ptr n))) (hm : M[n]? = some (.ins x fs)) (hl : fs.lookup fl = some v) (hp : P v M) : Gv (xFld x fl (xVar i) η M) P :=
  v_fld (v_var h ⟨fs, v, by simp only [asIns, hm], hl, hp⟩)
abbrev tabP (ss : List Str) (z : Nat) : Ob := .ins "Table" [("kinds", .tup (ss.map D.str)), ("amounts", .ptr z)]
/-- how the rows are handed in -/
def RowsAt (M : Mem) (d : D) (rs : List (List Str × Int)) : Prop := d = .tup (rs.map rowD) ∨ d = .lst (rs.map rowD) ∨ ∃ z, d = .ptr z ∧ M[z]? = some (.lst (rs.map rowD))
theorem init_ok {M : Mem} {n : Nat} {ss : List Str} {d : D} {rs : List (List Str × Int)} (K : Kinds ss) (hn : M[n]? = some (.ins "Table" [])) (hr : RowsAt M d rs) (hs : ∀ r ∈ rs, r.1 ∈ setS ss) :
    Gv (f_Table_init [.ptr n, .tup (ss.map D.str), d] M) fun r M' => r = .non ∧ M' = (M.set n (tabP ss M.length)) ++ [.dT (amF ss (lastV rs fun _ => 0))] := by
  have hl := (List.getElem?_eq_some_iff.mp hn).1
  refine v_body rfl ?_
  unfold b_Table_init
  refine v_seq (v_setF (v_var rfl (v_var rfl ⟨n, _, rfl, hn, by simp, ?_⟩)))
  refine v_thn (v_seq (v_setF (v_dcT (v_sq ?_))))
  walk_at "gos"
  refine ⟨rfl, (sets_of_ok K.le).imp ?_⟩
  rintro _ _ ⟨rfl, rfl⟩
  have hsl := setS_len K.le
  refine ⟨_, rfl, by rw [List.length_map]; exact Nat.le_trans hsl (by decide), ?_⟩
  refine (v_dc_map kOf (fun _ => .int 0) _ [] fun x hx => ?_).imp ?_
  · obtain ⟨o, ho, rfl⟩ := List.mem_map.mp hx
    have ho := mem_setS.mp ho
    refine v_gn (v_yes ⟨rfl, v_var rfl ⟨by rw [asKey_tup ho.1, kOf_tup ho.1], v_c ⟨rfl, rfl⟩⟩⟩)
  rintro acc M2 ⟨rfl, rfl⟩
  have e0 : ((setSort (sets1 ss)).map tupD).foldl (fun a d => putD a (kOf d) (D.int 0)) [] = amF ss (fun _ => 0) := by
    show ((setS ss).map tupD).foldl (fun a d => putD a (kOf d) (D.int 0)) [] = _
    rw [foldl_put (fun _ => D.int 0) _ [] (fun o ho => (mem_setS.mp ho).1) (fun o _ q hq => by simp at hq) (setS_nodup K.nodup)]
    rfl
  rw [e0]
  generalize eM1 : M.set n (.ins "Table" (putFD "kinds" (.tup (ss.map D.str)) [])) = M1
  have l1 : M1.length = M.length := by rw [← eM1]; simp
  have n1 : M1[n]? = some (.ins "Table" [("kinds", .tup (ss.map D.str))]) := by rw [← eM1, List.getElem?_set_self hl]; rfl
  refine v_var rfl ⟨n, _, rfl, by rw [List.getElem?_append_left (by omega)]; exact n1, by simp, ?_⟩
  have eput : putFD "amounts" (.ptr M1.length) [(("kinds" : Str), D.tup (ss.map D.str))] = ([("kinds", .tup (ss.map D.str)), ("amounts", .ptr M1.length)] : List (Str × D)) := by
    have : ¬ (("kinds" : Str) = "amounts") := by decide +kernel
    simp only [putFD, if_neg this]
  rw [eput, l1, List.set_append_left _ _ (by omega)]
  have e2 : M1.set n (tabP ss M.length) = M.set n (tabP ss M.length) := by rw [← eM1, List.set_set]
  rw [e2]
  have nA : ∀ dT : Ob, (M.set n (tabP ss M.length) ++ [dT])[n]? = some (tabP ss M.length) := fun dT => by
    rw [List.getElem?_append_left (by simpa using hl), List.getElem?_set_self hl]
  have nZ : ∀ dT : Ob, (M.set n (tabP ss M.length) ++ [dT])[M.length]? = some dT := fun dT => by
    rw [List.getElem?_append_right (by simp)]; simp
  have nR : ∀ (dT : Ob) (z : Nat), M[z]? = some (.lst (rs.map rowD)) → (M.set n (tabP ss M.length) ++ [dT])[z]? = some (.lst (rs.map rowD)) := fun dT z hz => by
    have hzl := (List.getElem?_eq_some_iff.mp hz).1
    have hzn : n ≠ z := fun e => by
      subst e
      rw [hn] at hz
      cases hz
    rw [List.getElem?_append_left (by simpa using hzl), List.getElem?_set_ne hzn]
    exact hz
  refine v_thn ?_
  have key : ∀ (nn : Option Nat), (∀ (dT : Ob), Ck nn (rs.map rowD) (M.set n (tabP ss M.length) ++ [dT])) →
      Gv (xForLP nn (rs.map rowD) (xgTup 2 (xgsCons (xgName 3) (xgsCons (xgName 4) xgsNil))) (xDPut (xVar 4) (xFld "Table" "amounts" (xVar 0)) (xVar 3)) (rs.map rowD) [some (.ptr n), some (.tup (ss.map D.str)), some d, none, none] (M.set n (tabP ss M.length) ++ [.dT (amF ss fun _ => 0)]))
        fun fl M1 => match fl with
          | .rt d => d = .non ∧ M1 = (M.set n (tabP ss M.length)) ++ [.dT (amF ss (lastV rs fun _ => 0))]
          | .nx _ => D.non = .non ∧ M1 = (M.set n (tabP ss M.length)) ++ [.dT (amF ss (lastV rs fun _ => 0))]
          | _ => False := by
    intro nn hck
    refine v_forLP (fun rest η M1 => ∃ (r2 : List (List Str × Int)) (g : List Str → Int) (a3 a4 : Option D), rest = r2.map rowD ∧ (∀ r ∈ r2, r.1 ∈ setS ss) ∧ η = [some (.ptr n), some (.tup (ss.map D.str)), some d, a3, a4] ∧ M1 = M.set n (tabP ss M.length) ++ [.dT (amF ss g)] ∧ lastV r2 g = lastV rs fun _ => 0) _
      ⟨rs, _, none, none, rfl, hs, rfl, rfl, rfl⟩ ?_ ?_ ?_
    · rintro r η M1 ⟨r2, g, a3, a4, _, _, _, rfl, _⟩
      exact hck _
    · rintro x r η M1 ⟨r2, g, a3, a4, e1, h1, rfl, rfl, hg⟩
      cases r2 with
      | nil => simp at e1
      | cons y r2 =>
        simp only [List.map_cons, List.cons.injEq] at e1
        obtain ⟨rfl, rfl⟩ := e1
        have hy := h1 y (List.mem_cons_self ..)
        refine gv_ok (v_dput (v_var rfl (v_fldP rfl (nA _) rfl (v_var rfl ⟨M.length, _, _, rfl, nZ _, asKey_tup (mem_setS.mp hy).1, ?_, ?_⟩))))
        · unfold amF
          rw [List.length_map]
          exact Nat.lt_of_le_of_lt hsl (by decide)
        · refine ⟨r2, _, _, _, rfl, fun r hr => h1 r (List.mem_cons_of_mem _ hr), rfl, ?_, hg⟩
          rw [putD_am hy, List.set_append_right _ _ (by simp)]
          simp
    · rintro η M1 ⟨r2, g, a3, a4, e1, h1, rfl, rfl, hg⟩
      cases r2 with
      | cons y r2 => simp at e1
      | nil => exact ⟨rfl, by rw [← hg]; rfl⟩
  refine v_forEi (v_var rfl ?_)
  rcases hr with rfl | rfl | ⟨z, rfl, hz⟩
  · exact .inr ⟨_, rfl, rfl, key none fun _ => trivial⟩
  · exact .inr ⟨_, rfl, rfl, key none fun _ => trivial⟩
  · exact .inl ⟨z, _, rfl, nR _ z hz, key (some z) fun dT => nR dT z hz⟩

theorem kinds_lk {a b : D} : ([(("kinds" : Str), a), (("amounts" : Str), b)] : List (Str × D)).lookup ("kinds" : Str) = some a := by simp [List.lookup_cons]
theorem amounts_lk {a b : D} : ([(("kinds" : Str), a), (("amounts" : Str), b)] : List (Str × D)).lookup ("amounts" : Str) = some b := by
  have : (("amounts" : Str) == ("kinds" : Str)) = false := by decide +kernel
  simp [List.lookup_cons, this]
theorem tab_no {m : Str} {a b : D} (h1 : (m == ("kinds" : Str)) = false := by decide +kernel) (h2 : (m == ("amounts" : Str)) = false := by decide +kernel) : ([(("kinds" : Str), a), (("amounts" : Str), b)] : List (Str × D)).lookup m = none := by
  simp [List.lookup_cons, h1, h2]
theorem v_table {M : Mem} {η : Dv} {P : D → Mem → Prop} {fa : XA} {n : Nat} {dfl : List D} (hp : Gv (fa η M) fun ds M1 => ds.length = n ∧ ∃ ss d rs, ds ++ dfl = [.tup (ss.map D.str), d] ∧ Kinds ss ∧ RowsAt M1 d rs ∧ (∀ r ∈ rs, r.1 ∈ setS ss) ∧ ∀ M', Gr M1 M' → P (tabF ss (lastV rs fun _ => 0)) M') :
    Gv (xFzI ["amounts"] (xMake "Table" n dfl f_Table_init fa) η M) P := by
  refine v_fzI (v_make (hp.imp ?_))
  rintro ds M1 ⟨hl, ss, d, rs, e, K, hr, hs, hP⟩
  refine ⟨hl, ?_⟩
  rw [e]
  have hn : (M1 ++ [Ob.ins "Table" []])[M1.length]? = some (.ins "Table" []) := by simp
  have hr' : RowsAt (M1 ++ [Ob.ins "Table" []]) d rs := by
    rcases hr with h | h | ⟨z, rfl, hz⟩
    · exact .inl h
    · exact .inr (.inl h)
    · exact .inr (.inr ⟨z, rfl, by rw [List.getElem?_append_left (List.getElem?_eq_some_iff.mp hz).1]; exact hz⟩)
  refine (init_ok K hn hr' hs).imp ?_
  rintro _ M2 ⟨rfl, e2⟩
  refine ⟨rfl, ?_⟩
  have e3 : M2 = M1 ++ [tabP ss (M1.length + 1), .dT (amF ss (lastV rs fun _ => 0))] := by
    rw [e2, List.set_append_right _ _ (Nat.le_refl _)]
    simp
  rw [e3]
  have g1 : (M1 ++ [tabP ss (M1.length + 1), .dT (amF ss (lastV rs fun _ => 0))])[M1.length]? = some (tabP ss (M1.length + 1)) := by simp
  have g2 : (M1 ++ [tabP ss (M1.length + 1), .dT (amF ss (lastV rs fun _ => 0))])[M1.length + 1]? = some (.dT (amF ss (lastV rs fun _ => 0))) := by
    rw [List.getElem?_append_right (by omega)]; simp
  have ef : frzF (M1 ++ [tabP ss (M1.length + 1), .dT (amF ss (lastV rs fun _ => 0))]) M1.length "amounts" = some (M1 ++ [.ins "Table" [("kinds", .tup (ss.map D.str)), ("amounts", .dcT (amF ss (lastV rs fun _ => 0)))], .gone]) := by
    have s1 : (M1 ++ [tabP ss (M1.length + 1), .dT (amF ss (lastV rs fun _ => 0))]).set (M1.length + 1) .gone = M1 ++ [tabP ss (M1.length + 1), .gone] := by
      rw [List.set_append_right _ _ (by omega)]; simp
    have s2 : (M1 ++ [tabP ss (M1.length + 1), Ob.gone])[M1.length]? = some (tabP ss (M1.length + 1)) := by simp
    have s3 : putFD "amounts" (.dcT (amF ss (lastV rs fun _ => 0))) [(("kinds" : Str), D.tup (ss.map D.str)), (("amounts" : Str), D.ptr (M1.length + 1))] = ([("kinds", .tup (ss.map D.str)), ("amounts", .dcT (amF ss (lastV rs fun _ => 0)))] : List (Str × D)) := by
      have : ¬ (("kinds" : Str) = "amounts") := by decide +kernel
      simp only [putFD, if_neg this, if_true]
    unfold frzF
    rw [g1]
    simp only [amounts_lk, frz_pT g2, s1, s2, and_self, if_true, s3, List.set_append_right _ _ (Nat.le_refl _), Nat.sub_self, List.set_cons_zero]
  refine ⟨M1.length, M1 ++ [.ins "Table" [("kinds", .tup (ss.map D.str)), ("amounts", .dcT (amF ss (lastV rs fun _ => 0)))], .gone], _, rfl, by simp only [frzFs, ef, Option.bind_some], frz_pI (by rw [List.getElem?_append_right (Nat.le_refl _), Nat.sub_self]; rfl), ?_⟩
  exact hP _ ((Gr.app _ _).set (Nat.le_refl _))
theorem fine_set {ss o : List Str} (K : Kinds ss) (h : o.Sublist ss) : Fine (tupD o) := by
  have h1 := h.length_le
  have h2 := K.le
  exact fine_tup (by simp; omega) (fine_strs fun t ht => K.sh t (h.subset ht))
theorem amount_ok {M : Mem} {ss o : List Str} {g : List Str → Int} (K : Kinds ss) (ho : o ∈ setS ss) : Gv (f_Table_amount [tabF ss g, tupD o] M) fun r M' => r = .int (g o) ∧ M' = M := by
  have hs := mem_setS.mp ho
  refine v_body rfl ?_
  unfold b_Table_amount
  refine v_seq (v_ifS ?_)
  refine v_not (v_tru (v_fn (v_cons (v_fldI rfl kinds_lk ?_))))
  walk_at "gos"
  refine ⟨rfl, (prog_set_ok K.up (fine_set K hs.2)).imp ?_⟩
  rintro _ _ ⟨rfl, rfl⟩
  have e : setB ss (tupD o) = true := setB_yes ⟨fun _ => rfl, fun _ => ⟨o, rfl, hs.1, hs.2⟩⟩
  rw [e]
  refine ⟨_, rfl, ?_⟩
  refine iteF ?_
  walk_at "gos"
  refine v_fldI rfl amounts_lk ?_
  walk_at "gos"
  exact ⟨_, gd_T (asKey_tup hs.1) (valD_am ho), rfl, rfl⟩

theorem v_asgG {f : XE} {gt : XG} {η : Dv} {M : Mem} {PF : Fl → Mem → Prop} (h : Gv (f η M) fun d M1 => Gv (gt d η M1) fun η1 M2 => PF (.nx η1) M2) : Gv (xAsg f gt η M) PF := gv_bind (h.imp fun d M1 h1 => gv_bind (Gv.imp h1 fun η1 M2 h2 => gv_ok h2))
def roomD (r : Str × List Str) : D := .tup [.str r.1, tupD r.2]
structure Rooms (ss : List Str) (most : Nat) (rs : List (Str × List Str)) : Prop where
  le : rs.length ≤ most
  ge : 1 ≤ rs.length
  sh : ∀ r ∈ rs, r.1.length ≤ 8
  up : (rs.map (·.1)).Pairwise ltS
  tk : ∀ r ∈ rs, r.2 ∈ setS ss
theorem ix_map {α : Type} {M : Mem} {l : List α} {e : α → D} {i : Int} (h0 : 0 ≤ i) (h1 : i < l.length) : ∃ a ∈ l, dIx M (.lst (l.map e)) (.int i) = some (e a) := by
  obtain ⟨x, hx, hm⟩ := ix_in (l := l.map e) h0 (by simpa using h1)
  obtain ⟨a, ha, rfl⟩ := List.mem_map.mp hm
  exact ⟨a, ha, ix_l.trans hx⟩
theorem rooms_pf {M : Mem} {n : Nat} {N : Int} {ss : List Str} {most : Nat} (K : Kinds ss) (h : BagAt M n N) (hN : N + 40 < 2 ^ 40) (hm1 : 1 ≤ most) (hm : most ≤ 16) : Gv (f_law_rooms [.ptr n, .tup (ss.map D.str), .int most] M) fun d M' => (∃ rs, d = .tup (rs.map roomD) ∧ Rooms ss most rs ∧ PfN (rs.map (·.1))) ∧ BagAt M' n (N + 40) ∧ Kp n M M' := by
  have hsl := setS_len K.le
  have hs1 := setS_len1 K.ge
  refine v_body rfl ?_
  unfold b_law_rooms
  refine v_seq (v_asg ?_)
  walk_at "gos"
  refine ⟨rfl, (law_sets_ok K.le).imp ?_⟩
  rintro _ M1 ⟨rfl, g1⟩
  have b1 := h.gr g1
  walk_at "gos"
  refine ⟨rfl, (take_ok b1 (by omega) (by omega) (by omega)).imp ?_⟩
  rintro _ M2 ⟨⟨x, rfl, x0, x1, b2, k2⟩⟩
  obtain ⟨q, rfl⟩ := Int.eq_ofNat_of_zero_le x0
  walk_at "gos"
  have eq1 : (1 : Int) + (q : Int) = ((q + 1 : Nat) : Int) := by omega
  rw [eq1]
  refine ⟨rfl, (names_pf b2 (by omega) (by omega)).imp ?_⟩
  rintro _ M3 ⟨⟨ts, rfl, hl, hsh, hu, hpf⟩, b3, k3⟩
  have k13 : Kp n M M3 := ((g1.kp n).trans k2).trans k3
  walk_at "gos"
  refine v_lc (v_sq ?_)
  walk_at "gos"
  refine ⟨_, rfl, by simp; omega, ?_⟩
  refine (v_lcL (fun rest acc Mx => ∃ (us : List Str) (rs : List (Str × List Str)), rest = us.map D.str ∧ acc = rs.map roomD ∧ rs.map (·.1) ++ us = ts ∧ (∀ r ∈ rs, r.2 ∈ setS ss) ∧ BagAt Mx n (N + 1 + 10 + rs.length) ∧ Kp n M Mx) _ ?_ [] ⟨ts, [], rfl, rfl, by simp, by simp, by simpa using b3, k13⟩).imp ?_
  · rintro d r acc Mx ⟨us, rs, e1, rfl, e2, hk, bx, kx⟩
    cases us with
    | nil => simp at e1
    | cons t us =>
      rw [List.map_cons] at e1
      injection e1 with e1 e3
      subst e1 e3
      have hlr : rs.length + us.length + 1 = q + 1 := by rw [← hl, ← e2]; simp; omega
      refine v_gn (v_yes ?_)
      rw [if_pos rfl]
      walk_at "gos"
      refine ⟨rfl, ?_⟩
      have hls : ((setSort (sets1 ss)).map tupD).length = (setS ss).length := List.length_map ..
      rw [hls]
      refine (take_ok bx (by omega) (by omega) (by omega)).imp ?_
      rintro _ M4 ⟨⟨y, rfl, y0, y1, b4, k4⟩⟩
      obtain ⟨o, ho, eo⟩ := ix_map (M := M4) (l := setS ss) (e := tupD) y0 y1
      refine ⟨_, eo, ?_⟩
      walk_at "gos"
      refine ⟨us, rs ++ [(t, o)], rfl, by simp [roomD], by rw [← e2]; simp, ?_, ?_, kx.trans k4⟩
      · intro r hr
        rcases List.mem_append.mp hr with hr | hr
        · exact hk r hr
        · simp at hr; subst hr; exact ho
      · have hl1 : (rs ++ [(t, o)]).length = rs.length + 1 := by simp
        rw [hl1]
        exact b4.up (by omega) (by omega)
  · rintro r M4 ⟨us, rs, e1, e2, e3, hk, b4, k4⟩
    have hus : us = [] := List.map_eq_nil_iff.mp e1.symm
    subst hus
    rw [List.nil_append] at e2
    subst e2
    rw [List.append_nil] at e3
    have hlr : rs.length = q + 1 := by rw [← hl, ← e3]; simp
    walk_at "gos"
    refine ⟨_, btuple_l, ⟨rs, rfl, ⟨by omega, by omega, ?_, by rw [e3]; exact hu, hk⟩, by rw [e3]; exact hpf⟩, b4.up (by omega) (by omega), k4⟩
    intro r hr
    exact hsh r.1 (by rw [← e3]; exact List.mem_map.mpr ⟨r, hr, rfl⟩)
theorem rooms_ok {M : Mem} {n : Nat} {N : Int} {ss : List Str} {most : Nat} (K : Kinds ss) (h : BagAt M n N) (hN : N + 40 < 2 ^ 40) (hm1 : 1 ≤ most) (hm : most ≤ 16) : Gv (f_law_rooms [.ptr n, .tup (ss.map D.str), .int most] M) fun d M' => (∃ rs, d = .tup (rs.map roomD) ∧ Rooms ss most rs) ∧ BagAt M' n (N + 40) ∧ Kp n M M' := (rooms_pf K h hN hm1 hm).imp fun _ _ ⟨⟨rs, e, h1, _⟩, hb, hk⟩ => ⟨⟨rs, e, h1⟩, hb, hk⟩
def Nums (k most : Nat) (ps : List Int) : Prop := ps.length = k ∧ ∀ p ∈ ps, 0 ≤ p ∧ p ≤ most

theorem bany_map {M : Mem} {α : Type} {p : α → Bool} {l : List α} : bAny M [.lst (l.map fun d => .bl (p d))] = some (.bl (l.any p)) := by
  have e : (l.map p).any id = l.any p := by
    induction l with
    | nil => rfl
    | cons a l ih => simp only [List.map_cons, List.any_cons, id, ih]
  have e2 : ∀ l : List α, asBs (l.map fun d => D.bl (p d)) = some (l.map p) := by
    intro l
    induction l with
    | nil => rfl
    | cons a l ih => simp only [List.map_cons, asBs, asB, Option.bind_some, ih, Option.map_some]
  simp only [bAny, one, asL, Option.bind_some, e2, Option.map_some, e]
theorem bsum_map {M : Mem} {α : Type} {g : α → Int} {l : List α} : bSum M [.lst (l.map fun d => .int (g d))] = some (.int (l.map g).sum) := by
  have e2 : ∀ l : List α, asIs (l.map fun d => D.int (g d)) = some (l.map g) := by
    intro l
    induction l with
    | nil => rfl
    | cons a l ih => simp only [List.map_cons, asIs, asI, Option.bind_some, ih, Option.map_some]
  simp only [bSum, one, asL, Option.bind_some, e2, Option.map_some]
/-- the set has a kind that is taken -/
def meets (tk o : List Str) : Bool := o.any fun s => decide (s ∈ tk)
theorem meets_comm (tk o : List Str) : (tk.any fun s => decide (s ∈ o)) = meets tk o := by
  unfold meets
  rw [Bool.eq_iff_iff]
  simp only [List.any_eq_true, decide_eq_true_eq]
  exact ⟨fun ⟨x, h1, h2⟩ => ⟨x, h2, h1⟩, fun ⟨x, h1, h2⟩ => ⟨x, h2, h1⟩⟩
theorem share_ok {M : Mem} {tk o : List Str} (hl : tk.length ≤ 1000) : Gv (f_law_share [tupD tk, tupD o] M) fun r M' => r = .bl (meets tk o) ∧ M' = M := by
  rw [← meets_comm]
  refine v_body rfl ?_
  unfold b_law_share
  refine v_ret (v_call (v_cons (v_lc (v_sq (v_var rfl ⟨_, rfl, by simp; omega, ?_⟩)))))
  refine (v_lc_ma (e := D.str) (h := fun s => .bl (decide (s ∈ o))) tk ?_).imp ?_
  · intro s hs
    refine v_gn (v_op ?_)
    walk_at "gos"
    exact ⟨_, in_kinds, rfl, rfl, rfl⟩
  · rintro r M1 ⟨rfl, rfl⟩
    exact v_nil ⟨_, bany_map, rfl, rfl⟩
/-- the places that serve the set -/
def freeF (rs : List (Str × List Str)) (ps : List Int) (o : List Str) : Int := (((rs.zip ps).filter fun q => meets q.1.2 o).map (·.2)).sum
/-- the guests with a kind of the set -/
def manyF (ss : List Str) (cs : List Int) (o : List Str) : Int := (((ss.zip cs).filter fun q => decide (q.1 ∈ o)).map (·.2)).sum
theorem zip_maps {α β : Type} (e : α → D) (e2 : β → D) (l : List α) (l2 : List β) : ((l.map e).zip (l2.map e2)).map (fun q => D.tup [q.1, q.2]) = (l.zip l2).map fun q => D.tup [e q.1, e2 q.2] := by
  rw [List.zip_map, List.map_map]
  rfl
theorem lastV_map {g : List Str → Int} : ∀ (l : List (List Str)) (f0 : List Str → Int), l.Nodup → ∀ o ∈ l, lastV (l.map fun o => (o, g o)) f0 o = g o := by
  intro l
  induction l with
  | nil => intro _ _ o ho; cases ho
  | cons a l ih =>
    intro f0 hn o ho
    rw [List.nodup_cons] at hn
    by_cases hl : o ∈ l
    · exact ih _ hn.2 o hl
    · have ha : o = a := (List.mem_cons.mp ho).resolve_right hl
      subst ha
      have key : ∀ (l : List (List Str)) (f : List Str → Int), o ∉ l → lastV (l.map fun o => (o, g o)) f o = f o := by
        intro l
        induction l with
        | nil => intro f _; rfl
        | cons b l ih2 =>
          intro f hb
          have h1 : o ≠ b := fun z => hb (by rw [z]; exact List.mem_cons_self ..)
          have h2 : o ∉ l := fun z => hb (List.mem_cons_of_mem _ z)
          show lastV (l.map fun o => (o, g o)) _ o = f o
          rw [ih2 _ h2]
          simp [h1]
      show lastV (l.map fun o => (o, g o)) _ o = g o
      rw [key l _ hl]
      simp
theorem tabF_congr {ss : List Str} {g g' : List Str → Int} (h : ∀ o ∈ setS ss, g o = g' o) : tabF ss g = tabF ss g' := by
  have : amF ss g = amF ss g' := List.map_congr_left fun o ho => by rw [h o ho]
  unfold tabF
  rw [this]

/-! ### books: what a stand has -/
theorem eq_ss {M : Mem} {a b : Str} : eqM false M (.str a) (.str b) = some (.bl (decide (a = b))) := by
  simp [eqM, toPM, toP, PyData.eqv, PyData.depth]
  rfl
def freeS (rs : List (Str × List Str)) (st : Str → Int) (o : List Str) : Int := ((rs.filter fun r => meets r.2 o).map fun r => st r.1).sum
def stK (rs : List (Str × List Str)) (st : Str → Int) : List (L2.Key × D) := rs.map fun r => (Sum.inr r.1, .int (st r.1))
noncomputable def standF (ss : List Str) (rs : List (Str × List Str)) (pa pk pp ph : Nat) : List (Str × D) := [("kinds", .tup (ss.map D.str)), ("plan", .tup (rs.map roomD)), ("sets", .lst ((setS ss).map tupD)), ("amounts", .ptr pa), ("stock", .ptr pk), ("people", .ptr pp), ("pieces", .int 0), ("home", .ptr ph)]
structure StandP (M : Mem) (p pa pk pp ph : Nat) (ss : List Str) (rs : List (Str × List Str)) (am : List Str → Int) (st : Str → Int) : Prop where
  ob : M[p]? = some (.ins "Stand" (standF ss rs pa pk pp ph))
  am : M[pa]? = some (.dT (amF ss am))
  st : M[pk]? = some (.dK (stK rs st))
  pe : M[pp]? = some (.lst [])
  ne : pa ≠ p ∧ pk ≠ p ∧ pa ≠ pk ∧ pp ≠ pa ∧ pp ≠ pk
theorem StandP.gr {M M' : Mem} {p pa pk pp ph : Nat} {ss : List Str} {rs : List (Str × List Str)} {am : List Str → Int} {st : Str → Int} (h : StandP M p pa pk pp ph ss rs am st) (g : Gr M M') : StandP M' p pa pk pp ph ss rs am st := ⟨g.at h.ob, g.at h.am, g.at h.st, g.at h.pe, h.ne⟩
structure Town (ss : List Str) (rs : List (Str × List Str)) : Prop where
  K : Kinds ss
  le : rs.length ≤ 16
  ge : 1 ≤ rs.length
  sh : ∀ r ∈ rs, r.1.length ≤ 8
  nd : (rs.map (·.1)).Nodup
  tk : ∀ r ∈ rs, r.2 ∈ setS ss
theorem Rooms.town {ss : List Str} {most : Nat} {rs : List (Str × List Str)} (K : Kinds ss) (h : Rooms ss most rs) (hm : most ≤ 16) : Town ss rs := ⟨K, Nat.le_trans h.le hm, h.ge, h.sh, h.up.imp fun {a b} q e => by subst e; exact ltS_irr q, h.tk⟩
theorem only_name : ∀ {rs : List (Str × List Str)}, (rs.map (·.1)).Nodup → ∀ {r : Str × List Str}, r ∈ rs → rs.filter (fun q => decide (q.1 = r.1)) = [r]
  | [], _, r, h => by cases h
  | q :: rs, nd, r, h => by
    rw [List.map_cons, List.nodup_cons] at nd
    rcases List.mem_cons.mp h with rfl | h
    · rw [List.filter_cons, if_pos (by simp)]
      congr 1
      refine List.filter_eq_nil_iff.mpr fun x hx => ?_
      simp only [decide_eq_true_eq]
      exact fun e => nd.1 (e ▸ List.mem_map.mpr ⟨x, hx, rfl⟩)
    · rw [List.filter_cons, if_neg]
      · exact only_name nd.2 h
      · simp only [decide_eq_true_eq]
        exact fun e => nd.1 (e ▸ List.mem_map.mpr ⟨r, h, rfl⟩)
theorem name_eq {rs : List (Str × List Str)} (nd : (rs.map (·.1)).Nodup) {q r : Str × List Str} (hq : q ∈ rs) (hr : r ∈ rs) (e : q.1 = r.1) : q = r := by
  have h : q ∈ rs.filter fun q => decide (q.1 = r.1) := List.mem_filter.mpr ⟨hq, decide_eq_true e⟩
  rw [only_name nd hr] at h
  exact List.mem_singleton.mp h
section
variable {M : Mem} {p pa pk pp ph : Nat} {ss : List Str} {rs : List (Str × List Str)} {am : List Str → Int} {st : Str → Int}
theorem takes_ok (h : StandP M p pa pk pp ph ss rs am st) (W : Town ss rs) {r : Str × List Str} (hr : r ∈ rs) : Gv (f_takes_of [.ptr p, .str r.1] M) fun x M' => x = tupD r.2 ∧ M' = M := by
  have hl := W.le
  refine v_body rfl ?_
  unfold b_takes_of
  refine v_ret (v_op (v_lc (v_sq (v_fldP rfl h.ob rfl ⟨_, rfl, by simp; omega, ?_⟩))))
  refine (v_lc_fa (e := roomD) (p := fun q => decide (q.1 = r.1)) (h := fun q => tupD q.2) rs ?_).imp ?_
  · intro q _
    refine gv_ok (v_tst (v_op ?_))
    walk_at "gos"
    refine ⟨_, eq_ss, ?_⟩
    walk_at "gos"
    refine ⟨rfl, rfl, fun _ => ?_⟩
    walk_at "gos"
    exact ⟨rfl, rfl⟩
  · rintro _ M ⟨rfl, rfl⟩
    rw [only_name W.nd hr]
    walk_at "gos"
    refine ⟨tupD r.2, by rw [ix_l, ix_0]; rfl, ?_⟩
    exact ⟨rfl, rfl⟩
noncomputable def servS (ss : List Str) (r : Str × List Str) : List (List Str) := (setS ss).filter fun o => meets r.2 o
theorem served_ok (h : StandP M p pa pk pp ph ss rs am st) (W : Town ss rs) {r : Str × List Str} (hr : r ∈ rs) : Gv (f_served [.ptr p, .str r.1] M) fun x M' => x = .lst ((servS ss r).map tupD) ∧ M' = M := by
  have hsl := setS_len W.K.le
  refine v_body rfl ?_
  unfold b_served
  refine v_seq (v_asg (v_fn ?_))
  walk_at "gos"
  refine ⟨rfl, (takes_ok h W hr).imp ?_⟩
  rintro _ _ ⟨rfl, e0⟩
  subst e0
  refine v_thn (v_ret (v_lc (v_sq (v_fldP rfl h.ob rfl ⟨_, rfl, by rw [List.length_map]; exact Nat.le_trans hsl (by decide), ?_⟩))))
  refine (v_lc_fa (e := tupD) (p := fun o => meets r.2 o) (h := tupD) (setS ss) ?_).imp ?_
  · intro o ho
    have hol : o.length ≤ 1000 := Nat.le_trans (mem_setS.mp ho).2.length_le (Nat.le_trans W.K.le (by decide))
    refine v_gn (v_tru (v_call (v_cons (v_lc (v_sq (v_var rfl ⟨o.map D.str, rfl, by simp; omega, ?_⟩))))))
    refine (v_lc_ma (e := D.str) (h := fun s => .bl (decide (s ∈ r.2))) o ?_).imp ?_
    · intro s _
      refine v_gn ?_
      walk_at "gos"
      exact ⟨_, in_kinds, rfl, rfl, rfl⟩
    · rintro _ _ ⟨rfl, rfl⟩
      refine v_nil ⟨_, bany_map (p := fun s => decide (s ∈ r.2)), _, tru_b, ?_⟩
      refine ⟨rfl, rfl, fun _ => ?_⟩
      walk_at "gos"
      exact ⟨rfl, rfl⟩
  · rintro _ _ ⟨rfl, rfl⟩
    exact ⟨rfl, rfl⟩
theorem get_am (h : StandP M p pa pk pp ph ss rs am st) {o : List Str} (ho : o ∈ setS ss) : dgetD M (.ptr pa) (tupD o) = some (some (.int (am o))) := by
  unfold dgetD
  have e : asDT M (.ptr pa) = some (amF ss am) := by simp only [asDT, h.am]
  rw [e]
  simp only [asKey_tup (mem_setS.mp ho).1, Option.map_some, valD_am ho]
theorem valD_st : ∀ {rs : List (Str × List Str)}, (rs.map (·.1)).Nodup → ∀ {r : Str × List Str}, r ∈ rs → valD (stK rs st) (Sum.inr r.1) = some (.int (st r.1))
  | [], _, r, h => by cases h
  | q :: rs, nd, r, h => by
    rw [List.map_cons, List.nodup_cons] at nd
    by_cases e : q.1 = r.1
    · simp [valD, stK, List.find?_cons, e]
    · rcases List.mem_cons.mp h with rfl | h
      · exact absurd rfl e
      · have := valD_st nd.2 h
        have e2 : ¬ (Sum.inr q.1 : L2.Key) = Sum.inr r.1 := fun z => e (Sum.inr.inj z)
        simpa [valD, stK, List.find?_cons, e2] using this
theorem valD_no {s : Str} (hs : s ∉ rs.map (·.1)) : valD (stK rs st) (Sum.inr s) = none := by
  unfold valD stK
  rw [Option.map_eq_none_iff, List.find?_eq_none]
  intro q hq
  obtain ⟨r, hr, rfl⟩ := List.mem_map.mp hq
  simp only [decide_eq_true_eq]
  exact fun e => hs (List.mem_map.mpr ⟨r, hr, Sum.inr.inj e⟩)
theorem get_st (h : StandP M p pa pk pp ph ss rs am st) (s : Str) : dgetD M (.ptr pk) (.str s) = some (valD (stK rs st) (Sum.inr s)) := by
  unfold dgetD
  have e1 : asDT M (.ptr pk) = none := by simp only [asDT, h.st]
  have e2 : asDK M (.ptr pk) = some (stK rs st) := by simp only [asDK, h.st]
  rw [e1, e2]
  rfl
theorem over_ok (h : StandP M p pa pk pp ph ss rs am st) {o : List Str} (ho : o ∈ setS ss) : Gv (f_over_at [.ptr p, tupD o] M) fun x M' => x = .int (am o) ∧ M' = M := by
  refine v_body rfl ?_
  unfold b_over_at
  refine v_seq (v_asg (v_lcP (v_fldP rfl h.ob rfl ⟨pp, [], rfl, h.pe, by simp, ?_⟩)))
  have e0 : ∀ (gt : XG) (t : XT) (f : XE) (η : Dv), xLcLP (some pp) [] gt t f [] η M = .ok [] M := fun gt t f η => by
    unfold xLcLP
    rw [if_pos (show Ck (some pp) [] M from h.pe)]
  rw [e0]
  refine gv_ok ?_
  refine v_thn (v_ret (v_op (v_op (v_fldP rfl h.ob rfl ?_))))
  walk_at "gos"
  refine ⟨_, by unfold gd; rw [get_am h ho]; rfl, ?_⟩
  walk_at "gos"
  exact ⟨by simp, rfl⟩
theorem areover_ok (h : StandP M p pa pk pp ph ss rs am st) {l : List (List Str)} (hl : ∀ o ∈ l, o ∈ setS ss) (hn : l.length ≤ 1000) : Gv (f_are_over [.ptr p, .lst (l.map tupD)] M) fun x M' => x = .bl (l.all fun o => decide (0 < am o)) ∧ M' = M := by
  refine v_body rfl ?_
  unfold b_are_over
  refine v_ret (v_call (v_cons (v_lc (v_sq (v_var rfl ⟨_, rfl, by simp; omega, ?_⟩)))))
  refine (v_lc_ma (e := tupD) (h := fun o => .bl (decide (0 < am o))) l ?_).imp ?_
  · intro o ho
    refine v_gn (v_op (v_fn ?_))
    walk_at "gos"
    refine ⟨rfl, (over_ok h (hl o ho)).imp ?_⟩
    rintro _ _ ⟨rfl, e0⟩
    subst e0
    walk_at "gos"
    exact ⟨rfl, rfl, rfl⟩
  · rintro _ _ ⟨rfl, rfl⟩
    exact v_nil ⟨_, ball_map, rfl, rfl⟩
def roomB (rs : List (Str × List Str)) : D → Bool
  | .str s => decide (s ∈ rs.map (·.1))
  | _ => false
theorem isroom_ok (h : StandP M p pa pk pp ph ss rs am st) (W : Town ss rs) {d : D} (hd : Fine1 d) : Gv (f_is_room [.ptr p, d] M) fun x M' => x = .bl (roomB rs d) ∧ M' = M := by
  refine v_body rfl ?_
  unfold b_is_room
  refine v_ret (v_andV (v_call ?_))
  walk_at "gos"
  refine ⟨_, isi_s hd, ?_⟩
  walk_at "gos"
  cases hs : isS d with
  | false =>
    refine iteF ⟨?_, rfl⟩
    cases d <;> simp_all [isS, roomB]
  | true =>
    obtain ⟨s, rfl⟩ : ∃ s, d = .str s := by cases d <;> simp_all [isS]
    refine iteT (v_op (v_var rfl (v_fldP rfl h.ob rfl ?_)))
    have e : gdIn false M (.str s) (.ptr pk) = some (.bl (decide (s ∈ rs.map (·.1)))) := by
      unfold gdIn
      rw [get_st h s]
      by_cases hm : s ∈ rs.map (·.1)
      · obtain ⟨r, hr, rfl⟩ := List.mem_map.mp hm
        rw [valD_st W.nd hr, decide_eq_true hm]
        rfl
      · rw [valD_no hm, decide_eq_false hm]
        rfl
    exact ⟨_, e, rfl, rfl⟩
def countB : D → Bool
  | .int i => decide (1 ≤ i) && decide (i ≤ 50)
  | _ => false
end

section
variable {M : Mem} {p pa pk pp ph : Nat} {ss : List Str} {rs : List (Str × List Str)} {am : List Str → Int} {st : Str → Int}
def isI : D → Bool
  | .int _ => true
  | .bl _ => true
  | _ => false
def isB : D → Bool
  | .bl _ => true
  | _ => false
theorem isi_i {M : Mem} {d : D} (h : Fine1 d) : bIsi M [d, .raw (.ty "int")] = some (.bl (isI d)) := by
  cases d with
  | raw _ => exact h.elim
  | scr _ => exact h.elim
  | ptr _ => exact h.elim
  | dcT _ => exact h.elim
  | ins _ _ => exact h.elim
  | fn _ => exact h.elim
  | non => simp only [bIsi, two, tyN, Option.bind_some, show kitB "NoneType" "int" = some false by decide +kernel]; rfl
  | bl _ => simp only [bIsi, two, tyN, Option.bind_some, show kitB "bool" "int" = some true by decide +kernel]; rfl
  | int _ => simp only [bIsi, two, tyN, Option.bind_some, show kitB "int" "int" = some true by decide +kernel]; rfl
  | str _ => simp only [bIsi, two, tyN, Option.bind_some, show kitB "str" "int" = some false by decide +kernel]; rfl
  | lst _ => simp only [bIsi, two, tyN, Option.bind_some, show kitB "list" "int" = some false by decide +kernel]; rfl
  | tup _ => simp only [bIsi, two, tyN, Option.bind_some, show kitB "tuple" "int" = some false by decide +kernel]; rfl
  | dct _ => simp only [bIsi, two, tyN, Option.bind_some, show kitB "dict" "int" = some false by decide +kernel]; rfl
theorem isi_bb {M : Mem} {d : D} (h : Fine1 d) : bIsi M [d, .raw (.ty "bool")] = some (.bl (isB d)) := by
  cases d with
  | raw _ => exact h.elim
  | scr _ => exact h.elim
  | ptr _ => exact h.elim
  | dcT _ => exact h.elim
  | ins _ _ => exact h.elim
  | fn _ => exact h.elim
  | non => simp only [bIsi, two, tyN, Option.bind_some, show kitB "NoneType" "bool" = some false by decide +kernel]; rfl
  | bl _ => simp only [bIsi, two, tyN, Option.bind_some, show kitB "bool" "bool" = some true by decide +kernel]; rfl
  | int _ => simp only [bIsi, two, tyN, Option.bind_some, show kitB "int" "bool" = some false by decide +kernel]; rfl
  | str _ => simp only [bIsi, two, tyN, Option.bind_some, show kitB "str" "bool" = some false by decide +kernel]; rfl
  | lst _ => simp only [bIsi, two, tyN, Option.bind_some, show kitB "list" "bool" = some false by decide +kernel]; rfl
  | tup _ => simp only [bIsi, two, tyN, Option.bind_some, show kitB "tuple" "bool" = some false by decide +kernel]; rfl
  | dct _ => simp only [bIsi, two, tyN, Option.bind_some, show kitB "dict" "bool" = some false by decide +kernel]; rfl
theorem count_ok {M : Mem} {d : D} (h : Fine1 d) : Gv (f_is_whole [d, .int 1, .int 50] M) fun r M' => r = .bl (countB d) ∧ M' = M := by
  refine v_body rfl ?_
  unfold b_is_whole
  refine v_seq (v_ifS (v_or (v_not (v_tru (v_call ?_)))))
  walk_at "gos"
  refine ⟨_, isi_i h, ?_⟩
  walk_at "gos"
  cases hi : isI d with
  | false =>
    refine iteT (iteT ?_)
    walk_at "gos"
    exact ⟨by cases d <;> simp_all [isI, countB], rfl⟩
  | true =>
    refine iteF (v_or (v_tru (v_call ?_)))
    walk_at "gos"
    refine ⟨_, isi_bb h, ?_⟩
    walk_at "gos"
    cases hb : isB d with
    | true =>
      refine iteT (iteT ?_)
      walk_at "gos"
      exact ⟨by cases d <;> simp_all [isB, countB], rfl⟩
    | false =>
      obtain ⟨i, rfl⟩ : ∃ i, d = .int i := by cases d <;> simp_all [isI, isB]
      refine iteF ?_
      walk_at "gos"
      by_cases hp : i < 1
      · rw [decide_eq_true hp]
        refine iteT ?_
        walk_at "gos"
        exact ⟨by simp [countB]; omega, rfl⟩
      · rw [decide_eq_false hp]
        refine iteF (v_nx (v_thn (v_ret (v_orV (v_op ?_)))))
        walk_at "gos"
        refine ⟨.bl false, rfl, false, rfl, iteF (v_op ?_)⟩
        walk_at "gos"
        refine ⟨?_, rfl⟩
        have : decide (1 ≤ i) = true := decide_eq_true (by omega)
        simp [countB, this]
theorem canunlock_ok {q : Nat} {a b : D} (h : StandP M p pa pk pp ph ss rs am st) (W : Town ss rs) (hq : M[q]? = some (.lst [a, b])) (ha : Fine1 a) (hb : Fine1 b) : Gv (f_can_unlock [.ptr p, .ptr q] M) fun x M' => x = .bl (roomB rs a && countB b) ∧ M' = M := by
  refine v_body rfl ?_
  unfold b_can_unlock
  refine v_seq (v_asgG (v_var rfl ?_))
  have e : ∀ η : Dv, xgLst 2 (xgsCons (xgName 2) (xgsCons (xgName 3) xgsNil)) (.ptr q) η M = .ok ((η.set 2 (some a)).set 3 (some b)) M := fun η => by
    unfold xgLst
    simp only [asL, hq]
    rfl
  rw [e]
  refine gv_ok ?_
  refine v_thn (v_ret (v_andV (v_fn ?_)))
  walk_at "gos"
  refine ⟨rfl, (isroom_ok h W ha).imp ?_⟩
  rintro _ _ ⟨rfl, e0⟩
  subst e0
  refine ⟨_, rfl, ?_⟩
  cases hr : roomB rs a with
  | false => exact iteF ⟨rfl, rfl⟩
  | true =>
    refine iteT (v_fnK ?_)
    walk_at "gos"
    refine ⟨⟨rfl, rfl⟩, (count_ok hb).imp ?_⟩
    rintro _ _ ⟨rfl, rfl⟩
    exact ⟨by simp, rfl⟩
/-- a key of the room -/
def keyB (rs : List (Str × List Str)) (st : Str → Int) : D → Bool
  | .str s => decide (s ∈ rs.map (·.1)) && decide (0 < st s)
  | _ => false
theorem canlock_ok {q : Nat} {a : D} (h : StandP M p pa pk pp ph ss rs am st) (W : Town ss rs) (hq : M[q]? = some (.lst [a])) (ha : Fine1 a) (hov : ∀ r ∈ rs, 0 < st r.1 → ∀ o ∈ setS ss, meets r.2 o = true → 0 < am o) : Gv (f_can_lock [.ptr p, .ptr q] M) fun x M' => x = .bl (keyB rs st a) ∧ M' = M := by
  have hsl := setS_len W.K.le
  refine v_body rfl ?_
  unfold b_can_lock
  refine v_seq (v_asg (v_op ?_))
  walk_at "gos"
  refine ⟨a, by rw [ix_p hq, ix_0]; rfl, ?_⟩
  refine v_thn (v_ret (v_andV (v_fn ?_)))
  walk_at "gos"
  refine ⟨rfl, (isroom_ok h W ha).imp ?_⟩
  rintro _ _ ⟨rfl, e0⟩
  subst e0
  refine ⟨_, rfl, ?_⟩
  cases hr : roomB rs a with
  | false =>
    refine iteF ⟨?_, rfl⟩
    cases a <;> simp_all [roomB, keyB]
  | true =>
    obtain ⟨s, rfl⟩ : ∃ s, a = .str s := by cases a <;> simp_all [roomB]
    have hm : s ∈ rs.map (·.1) := of_decide_eq_true hr
    obtain ⟨r, hrr, rfl⟩ := List.mem_map.mp hm
    refine iteT (v_andV (v_op (v_op (v_fldP rfl h.ob rfl ?_))))
    walk_at "gos"
    refine ⟨.int (st r.1), by unfold gd; rw [get_st h, valD_st W.nd hrr]; rfl, ?_⟩
    walk_at "gos"
    by_cases hp : 0 < st r.1
    · rw [decide_eq_true hp]
      refine iteT (v_fn (v_cons (v_var rfl (v_cons (v_fn ?_)))))
      walk_at "gos"
      refine ⟨rfl, (served_ok h W hrr).imp ?_⟩
      rintro _ _ ⟨rfl, e0⟩
      subst e0
      refine v_nil ⟨rfl, (areover_ok h (l := servS ss r) (fun o ho => (List.mem_filter.mp ho).1) (Nat.le_trans (List.length_filter_le ..) (Nat.le_trans hsl (by decide)))).imp ?_⟩
      rintro _ _ ⟨rfl, rfl⟩
      refine ⟨?_, rfl⟩
      have e1 : (servS ss r).all (fun o => decide (0 < am o)) = true := by
        rw [List.all_eq_true]
        intro o ho
        obtain ⟨h1, h2⟩ := List.mem_filter.mp ho
        exact decide_eq_true (hov r hrr hp o h1 h2)
      rw [e1]
      simp only [keyB, decide_eq_true hm, decide_eq_true hp]
      rfl
    · rw [decide_eq_false hp]
      refine iteF ⟨?_, rfl⟩
      simp only [keyB, decide_eq_false hp, Bool.and_false]
end
/-! which rows stand -/
def canB (rs : List (Str × List Str)) (st : Str → Int) : D → Bool
  | .tup [.str w, a, b] => decide (w = "unlock") && (roomB rs a && countB b)
  | .tup [.str w, a] => decide (w = "lock") && keyB rs st a
  | _ => false
/-- a thing that may be asked about here -/
def RowOk (d : D) : Prop := Fine d ∧ ∀ w ds, d = .tup (.str w :: ds) → w = "unlock" ∨ w = "lock" ∨ w = "Lock"

section
variable {M : Mem} {p pa pk pp ph : Nat} {ss : List Str} {rs : List (Str × List Str)} {am : List Str → Int} {st : Str → Int}
theorem ul_ne : ("unlock" : Str) ≠ "lock" := by decide +kernel
theorem inG_u : inG true "CAN" tin_CAN M (.str "unlock") (.fn "CAN") = some (.bl false) := rfl
theorem inG_l : inG true "CAN" tin_CAN M (.str "lock") (.fn "CAN") = some (.bl false) := rfl
theorem inG_L : inG true "CAN" tin_CAN M (.str "Lock") (.fn "CAN") = some (.bl true) := rfl
theorem tab_cu : List.lookup ("can_unlock" : Str) tab_can_stand = some f_can_unlock := rfl
theorem tab_cl : List.lookup ("can_lock" : Str) tab_can_stand = some f_can_lock := rfl
theorem canstand_ok {d : D} (h : StandP M p pa pk pp ph ss rs am st) (W : Town ss rs) (hd : RowOk d) (hov : ∀ r ∈ rs, 0 < st r.1 → ∀ o ∈ setS ss, meets r.2 o = true → 0 < am o) : Gv (f_can_stand [.ptr p, d] M) fun x M' => x = .bl (canB rs st d) ∧ Gr M M' := by
  obtain ⟨⟨hf1, hf⟩, hw⟩ := hd
  refine v_body rfl ?_
  unfold b_can_stand
  refine v_seq (v_ifS (v_or (v_not (v_tru (v_call ?_)))))
  walk_at "gos"
  refine ⟨_, isi_t hf1, ?_⟩
  walk_at "gos"
  cases ht : isT d with
  | false =>
    refine iteT (iteT ?_)
    walk_at "gos"
    refine ⟨?_, Gr.refl _⟩
    cases d <;> simp_all [isT, canB]
  | true =>
    obtain ⟨ds, rfl⟩ : ∃ ds, d = .tup ds := by cases d <;> simp_all [isT]
    obtain ⟨hl, hfd⟩ := hf ds rfl
    refine iteF (v_or (v_tst (v_op ?_)))
    walk_at "gos"
    refine ⟨_, eq_nil, ?_⟩
    walk_at "gos"
    cases ds with
    | nil =>
      rw [decide_eq_true (show ([] : List D).length = 0 from rfl)]
      refine iteT (iteT ?_)
      walk_at "gos"
      exact ⟨rfl, Gr.refl _⟩
    | cons x rest =>
      rw [decide_eq_false (show ¬ (x :: rest).length = 0 by simp)]
      have hx : Fine1 x := hfd x (List.mem_cons_self ..)
      refine iteF (v_or (v_not (v_tru (v_call (v_cons (v_op ?_))))))
      walk_at "gos"
      refine ⟨x, by rw [ix_t, ix_0]; rfl, ?_⟩
      walk_at "gos"
      refine ⟨_, isi_s hx, ?_⟩
      walk_at "gos"
      cases hs : isS x with
      | false =>
        refine iteT (iteT ?_)
        walk_at "gos"
        refine ⟨?_, Gr.refl _⟩
        have : canB rs st (.tup (x :: rest)) = false := by
          unfold canB
          split
          · next w a b e => cases e; cases hs
          · next w a e => cases e; cases hs
          · rfl
        rw [this]
      | true =>
        obtain ⟨w, rfl⟩ : ∃ w, x = .str w := by cases x <;> simp_all [isS]
        refine iteF (v_tst (v_op (v_op ?_)))
        walk_at "gos"
        refine ⟨.str w, by rw [ix_t, ix_0]; rfl, ?_⟩
        walk_at "gos"
        rcases hw w rest rfl with rfl | rfl | rfl
        · refine ⟨_, inG_u, ?_⟩
          walk_at "gos"
          refine iteF (v_nx (v_thn (v_seq (v_asgG (v_var rfl (v_star rfl (gv_ok ?_)))))))
          have g0 : Gr M (M ++ [Ob.lst rest]) := Gr.app _ _
          have h2 := h.gr g0
          have hq : (M ++ [Ob.lst rest])[M.length]? = some (.lst rest) := by simp
          generalize M ++ [Ob.lst rest] = M1 at g0 h2 hq
          refine v_thn (v_seq (v_asg (v_op ?_)))
          walk_at "gos"
          refine ⟨.fn "can_unlock", rfl, ?_⟩
          refine v_thn (v_ret (v_andV (v_op (v_call ?_))))
          walk_at "gos"
          refine ⟨_, by show bLen M1 [.ptr M.length] = some (.int rest.length); simp [bLen, one, lenD, asL, hq], ?_⟩
          walk_at "gos"
          refine ⟨.int 2, rfl, ?_⟩
          refine ⟨_, eq_ii, ?_⟩
          refine ⟨_, rfl, ?_⟩
          by_cases h2l : rest.length = 2
          · rw [decide_eq_true (show (rest.length : Int) = 2 by omega)]
            match rest, h2l with
            | [a, b], _ =>
              refine iteT (v_callL rfl tab_cu ?_)
              walk_at "gos"
              refine ⟨rfl, (canunlock_ok h2 W hq (hfd a (by simp)) (hfd b (by simp))).imp ?_⟩
              rintro _ _ ⟨rfl, rfl⟩
              exact ⟨by simp [canB], g0⟩
          · rw [decide_eq_false (show ¬ (rest.length : Int) = 2 by omega)]
            refine iteF ⟨?_, g0⟩
            have : canB rs st (.tup (.str "unlock" :: rest)) = false := by
              unfold canB
              split
              · next w a b e => cases e; simp at h2l
              · next w a e => cases e; rw [decide_eq_false ul_ne]; rfl
              · rfl
            rw [this]
        · refine ⟨_, inG_l, ?_⟩
          walk_at "gos"
          refine iteF (v_nx (v_thn (v_seq (v_asgG (v_var rfl (v_star rfl (gv_ok ?_)))))))
          have g0 : Gr M (M ++ [Ob.lst rest]) := Gr.app _ _
          have h2 := h.gr g0
          have hq : (M ++ [Ob.lst rest])[M.length]? = some (.lst rest) := by simp
          generalize M ++ [Ob.lst rest] = M1 at g0 h2 hq
          refine v_thn (v_seq (v_asg (v_op ?_)))
          walk_at "gos"
          refine ⟨.fn "can_lock", rfl, ?_⟩
          refine v_thn (v_ret (v_andV (v_op (v_call ?_))))
          walk_at "gos"
          refine ⟨_, by show bLen M1 [.ptr M.length] = some (.int rest.length); simp [bLen, one, lenD, asL, hq], ?_⟩
          walk_at "gos"
          refine ⟨.int 1, rfl, ?_⟩
          refine ⟨_, eq_ii, ?_⟩
          refine ⟨_, rfl, ?_⟩
          by_cases h1l : rest.length = 1
          · rw [decide_eq_true (show (rest.length : Int) = 1 by omega)]
            match rest, h1l with
            | [a], _ =>
              refine iteT (v_callL rfl tab_cl ?_)
              walk_at "gos"
              refine ⟨rfl, (canlock_ok h2 W hq (hfd a (by simp)) hov).imp ?_⟩
              rintro _ _ ⟨rfl, rfl⟩
              exact ⟨by simp [canB], g0⟩
          · rw [decide_eq_false (show ¬ (rest.length : Int) = 1 by omega)]
            refine iteF ⟨?_, g0⟩
            have : canB rs st (.tup (.str "lock" :: rest)) = false := by
              unfold canB
              split
              · next w a b e => cases e; rw [decide_eq_false (Ne.symm ul_ne)]; rfl
              · next w a e => cases e; simp at h1l
              · rfl
            rw [this]
        · refine ⟨_, inG_L, ?_⟩
          walk_at "gos"
          refine iteT ?_
          walk_at "gos"
          refine ⟨?_, Gr.refl _⟩
          have n1 : ("Lock" : Str) ≠ "unlock" := by decide +kernel
          have n2 : ("Lock" : Str) ≠ "lock" := by decide +kernel
          have : canB rs st (.tup (.str "Lock" :: rest)) = false := by
            unfold canB
            split
            · next w a b e => cases e; rw [decide_eq_false n1]; rfl
            · next w a e => cases e; rw [decide_eq_false n2]; rfl
            · rfl
          rw [this]
/-! a row is put -/
theorem putD_st : ∀ {rs : List (Str × List Str)}, (rs.map (·.1)).Nodup → ∀ {r : Str × List Str}, r ∈ rs → ∀ v : Int, putD (stK rs st) (Sum.inr r.1) (.int v) = stK rs fun s => if s = r.1 then v else st s := by
  intro rs nd r hr v
  unfold putD
  rw [if_pos]
  · unfold stK
    rw [List.map_map]
    refine List.map_congr_left fun q _ => ?_
    simp only [Function.comp]
    by_cases e : q.1 = r.1
    · rw [if_pos (by rw [e]), if_pos e]
    · rw [if_neg (fun z => e (Sum.inr.inj z)), if_neg e]
  · rw [List.any_eq_true]
    exact ⟨(Sum.inr r.1, .int (st r.1)), List.mem_map.mpr ⟨r, hr, rfl⟩, by simp⟩
theorem freeS_upd {r : Str × List Str} (W : Town ss rs) (hr : r ∈ rs) (n : Int) (o : List Str) : freeS rs (fun s => if s = r.1 then st r.1 + n else st s) o = freeS rs st o + if meets r.2 o = true then n else 0 := by
  have key : ∀ l : List (Str × List Str), (l.map (·.1)).Nodup → (∀ q ∈ l, q ∈ rs) → ((l.filter fun q => meets q.2 o).map fun q => if q.1 = r.1 then st r.1 + n else st q.1).sum = ((l.filter fun q => meets q.2 o).map fun q => st q.1).sum + if r ∈ l ∧ meets r.2 o = true then n else 0 := by
    intro l
    induction l with
    | nil => intro _ _; simp
    | cons q l ih =>
      intro nd hl
      rw [List.map_cons, List.nodup_cons] at nd
      have ih' := ih nd.2 fun x hx => hl x (List.mem_cons_of_mem _ hx)
      by_cases e : q = r
      · subst e
        have hnl : q ∉ l := fun z => nd.1 (List.mem_map.mpr ⟨q, z, rfl⟩)
        rw [if_neg (fun z => hnl z.1)] at ih'
        by_cases hm : meets q.2 o = true
        · rw [List.filter_cons, if_pos hm, List.map_cons, List.map_cons, List.sum_cons, List.sum_cons, ih', if_pos rfl, if_pos ⟨List.mem_cons_self .., hm⟩]
          omega
        · rw [List.filter_cons, if_neg hm, ih', if_neg (fun z => hm z.2)]
      · have hqn : q.1 ≠ r.1 := fun z => e (name_eq W.nd (hl q (List.mem_cons_self ..)) hr z)
        have hmem : (r ∈ q :: l ∧ meets r.2 o = true) ↔ (r ∈ l ∧ meets r.2 o = true) := by
          rw [List.mem_cons]
          exact ⟨fun ⟨h1, h2⟩ => ⟨h1.resolve_left fun z => e z.symm, h2⟩, fun ⟨h1, h2⟩ => ⟨.inr h1, h2⟩⟩
        by_cases hm : meets q.2 o = true
        · rw [List.filter_cons, if_pos hm, List.map_cons, List.map_cons, List.sum_cons, List.sum_cons, ih', if_neg hqn]
          simp only [hmem]
          omega
        · rw [List.filter_cons, if_neg hm, ih']
          simp only [hmem]
  have := key rs W.nd fun _ h => h
  unfold freeS
  rw [this]
  simp only [hr, true_and]
theorem amF_congr {g g' : List Str → Int} (h : ∀ o ∈ setS ss, g o = g' o) : amF ss g = amF ss g' := by
  unfold amF
  exact List.map_congr_left fun o ho => by rw [h o ho]
theorem move_ok {r : Str × List Str} {n : Int} (h : StandP M p pa pk pp ph ss rs (freeS rs st) st) (W : Town ss rs) (hr : r ∈ rs) : Gv (f_move_places [.ptr p, .str r.1, .int n] M) fun _ M' => StandP M' p pa pk pp ph ss rs (freeS rs fun s => if s = r.1 then st r.1 + n else st s) (fun s => if s = r.1 then st r.1 + n else st s) ∧ M'.length = M.length ∧ ∀ j, j ≠ pa → j ≠ pk → M'[j]? = M[j]? := by
  have hsl := setS_len W.K.le
  have hrl := W.le
  have lpa : pa < M.length := (List.getElem?_eq_some_iff.mp h.am).1
  have lpk : pk < M.length := (List.getElem?_eq_some_iff.mp h.st).1
  obtain ⟨n1, n2, n3, n4, n5⟩ := h.ne
  refine v_body rfl ?_
  unfold b_move_places
  refine v_seq (v_augD (v_fldP rfl h.ob rfl (v_var rfl ⟨pk, st r.1, rfl, by rw [get_st h, valD_st W.nd hr], v_var rfl ⟨n, M.set pk (.dK (stK rs fun s => if s = r.1 then st r.1 + n else st s)), rfl, ?_, ?_⟩⟩)))
  · show augD M pk (.str r.1) (.int (st r.1 + n)) = some (M.set pk (.dK (stK rs fun s => if s = r.1 then st r.1 + n else st s)))
    unfold augD
    rw [h.st]
    simp only [asK1, Option.bind_some]
    rw [if_pos (by simp [stK]; omega), putD_st W.nd hr]
  · have h1 : StandP (M.set pk (.dK (stK rs fun s => if s = r.1 then st r.1 + n else st s))) p pa pk pp ph ss rs (freeS rs st) (fun s => if s = r.1 then st r.1 + n else st s) := by
      refine ⟨?_, ?_, List.getElem?_set_self lpk, ?_, h.ne⟩
      · rw [List.getElem?_set_ne n2]; exact h.ob
      · rw [List.getElem?_set_ne (Ne.symm n3)]; exact h.am
      · rw [List.getElem?_set_ne (Ne.symm n5)]; exact h.pe
    have hlen : (M.set pk (.dK (stK rs fun s => if s = r.1 then st r.1 + n else st s))).length = M.length := by simp
    have hoth : ∀ j, j ≠ pa → j ≠ pk → (M.set pk (.dK (stK rs fun s => if s = r.1 then st r.1 + n else st s)))[j]? = M[j]? := fun j _ hj => List.getElem?_set_ne (Ne.symm hj)
    generalize M.set pk (.dK (stK rs fun s => if s = r.1 then st r.1 + n else st s)) = M1 at h1 hlen hoth
    refine v_thn (v_for (PI := fun _ _ => True) (v_sq (v_fn ?_)))
    walk_at "gos"
    refine ⟨rfl, (served_ok h1 W hr).imp ?_⟩
    rintro _ _ ⟨rfl, e0⟩
    subst e0
    refine ⟨_, rfl, ?_⟩
    have nds : (servS ss r).Nodup := (setS_nodup W.K.nodup).sublist List.filter_sublist
    refine v_forL (fun rest η Mx => ∃ (pre suf : List (List Str)) (a3 : Option D), servS ss r = pre ++ suf ∧ rest = suf.map tupD ∧ η = [some (.ptr p), some (.str r.1), some (.int n), a3] ∧ StandP Mx p pa pk pp ph ss rs (fun o => freeS rs st o + if o ∈ pre then n else 0) (fun s => if s = r.1 then st r.1 + n else st s) ∧ Mx.length = M.length ∧ ∀ j, j ≠ pa → j ≠ pk → Mx[j]? = M[j]?) _ ⟨[], servS ss r, _, rfl, rfl, rfl, ?_, hlen, hoth⟩ ?_ ?_
    · have : (fun o => freeS rs st o + if o ∈ ([] : List (List Str)) then n else 0) = freeS rs st := by funext o; simp
      rw [this]
      exact h1
    · rintro d rr η Mx ⟨pre, suf, a3, e1, e2, rfl, hx, hlx, hox⟩
      cases suf with
      | nil => cases e2
      | cons o suf =>
        rw [List.map_cons] at e2
        injection e2 with e2 e3
        subst e2 e3
        have hos : o ∈ servS ss r := by rw [e1]; simp
        have ho : o ∈ setS ss := (List.mem_filter.mp hos).1
        have hnp : o ∉ pre := fun z => by
          rw [e1, List.nodup_append] at nds
          exact nds.2.2 o z o (List.mem_cons_self ..) rfl
        refine v_gn (v_augD (v_fldP rfl hx.ob rfl (v_var rfl ⟨pa, freeS rs st o, rfl, by rw [get_am hx ho, if_neg hnp, Int.add_zero], v_var rfl ⟨n, Mx.set pa (.dT (amF ss fun u => if u = o then freeS rs st o + n else freeS rs st u + if u ∈ pre then n else 0)), rfl, ?_, ?_⟩⟩)))
        · show augD Mx pa (tupD o) (.int (freeS rs st o + n)) = some (Mx.set pa (.dT (amF ss fun u => if u = o then freeS rs st o + n else freeS rs st u + if u ∈ pre then n else 0)))
          unfold augD
          rw [hx.am]
          simp only [asKey_tup (mem_setS.mp ho).1, Option.bind_some]
          rw [if_pos (by unfold amF; rw [List.length_map]; omega), putD_am ho]
        · have lpx : pa < Mx.length := by omega
          refine ⟨pre ++ [o], suf, _, by rw [e1]; simp, rfl, rfl, ⟨?_, ?_, ?_, ?_, h.ne⟩, by simp [hlx], fun j hj1 hj2 => by rw [List.getElem?_set_ne (Ne.symm hj1)]; exact hox j hj1 hj2⟩
          · rw [List.getElem?_set_ne n1]; exact hx.ob
          · rw [List.getElem?_set_self lpx, amF_congr]
            intro u _
            by_cases e : u = o
            · subst e; simp
            · simp [e]
          · rw [List.getElem?_set_ne n3]; exact hx.st
          · rw [List.getElem?_set_ne (Ne.symm n4)]; exact hx.pe
    · rintro η Mx ⟨pre, suf, a3, e1, e2, rfl, hx, hlx, hox⟩
      cases suf with
      | cons _ _ => cases e2
      | nil =>
        rw [List.append_nil] at e1
        subst e1
        refine ⟨⟨hx.ob, ?_, hx.st, hx.pe, hx.ne⟩, hlx, hox⟩
        rw [hx.am, amF_congr]
        intro o ho
        rw [freeS_upd W hr]
        have : o ∈ servS ss r ↔ meets r.2 o = true := ⟨fun z => (List.mem_filter.mp z).2, fun z => List.mem_filter.mpr ⟨ho, z⟩⟩
        simp only [this]
end

def putS (st : Str → Int) : D → Str → Int
  | .tup [.str _, .str s, .int n] => fun u => if u = s then st s + n else st u
  | .tup [.str _, .str s] => fun u => if u = s then st s + -1 else st u
  | _ => st
theorem can_cases {rs : List (Str × List Str)} {st : Str → Int} {d : D} (h : canB rs st d = true) : (∃ r n, r ∈ rs ∧ d = .tup [.str "unlock", .str r.1, .int n] ∧ 1 ≤ n ∧ n ≤ 50) ∨ ∃ r, r ∈ rs ∧ d = .tup [.str "lock", .str r.1] ∧ 0 < st r.1 := by
  unfold canB at h
  split at h
  · next w a b =>
    simp only [Bool.and_eq_true, decide_eq_true_eq] at h
    obtain ⟨rfl, h1, h2⟩ := h
    cases a with
    | str s =>
      obtain ⟨r, hr, rfl⟩ := List.mem_map.mp (of_decide_eq_true h1)
      cases b with
      | int i =>
        simp only [countB, Bool.and_eq_true, decide_eq_true_eq] at h2
        exact .inl ⟨r, i, hr, rfl, h2.1, h2.2⟩
      | _ => simp [countB] at h2
    | _ => simp [roomB] at h1
  · next w a =>
    simp only [Bool.and_eq_true, decide_eq_true_eq] at h
    obtain ⟨rfl, h1⟩ := h
    cases a with
    | str s =>
      simp only [keyB, Bool.and_eq_true, decide_eq_true_eq] at h1
      obtain ⟨r, hr, rfl⟩ := List.mem_map.mp h1.1
      exact .inr ⟨r, hr, rfl, h1.2⟩
    | _ => simp [keyB] at h1
  · cases h
def NN (rs : List (Str × List Str)) (st : Str → Int) : Prop := ∀ r ∈ rs, 0 ≤ st r.1
theorem NN.put {rs : List (Str × List Str)} {st : Str → Int} {d : D} (h : NN rs st) (hc : canB rs st d = true) : NN rs (putS st d) := by
  rcases can_cases hc with ⟨r, n, hr, rfl, h1, _⟩ | ⟨r, hr, rfl, h1⟩
  · intro q hq
    show 0 ≤ if q.1 = r.1 then st r.1 + n else st q.1
    have := h q hq
    have := h r hr
    split <;> omega
  · intro q hq
    show 0 ≤ if q.1 = r.1 then st r.1 + -1 else st q.1
    have := h q hq
    split <;> omega
theorem free_pos {rs : List (Str × List Str)} {st : Str → Int} (h : NN rs st) {r : Str × List Str} (hr : r ∈ rs) (hp : 0 < st r.1) {o : List Str} (hm : meets r.2 o = true) : 0 < freeS rs st o := by
  unfold freeS
  have key : ∀ l : List (Str × List Str), (∀ q ∈ l, 0 ≤ st q.1) → 0 ≤ (l.map fun q => st q.1).sum ∧ (r ∈ l → 0 < (l.map fun q => st q.1).sum) := by
    intro l
    induction l with
    | nil => intro _; simp
    | cons q l ih =>
      intro hl
      obtain ⟨i1, i2⟩ := ih fun x hx => hl x (List.mem_cons_of_mem _ hx)
      have h0 := hl q (List.mem_cons_self ..)
      rw [List.map_cons, List.sum_cons]
      refine ⟨by omega, fun hm => ?_⟩
      rcases List.mem_cons.mp hm with rfl | hm
      · omega
      · have := i2 hm
        omega
  exact (key _ fun q hq => h q (List.mem_filter.mp hq).1).2 (List.mem_filter.mpr ⟨hr, hm⟩)
theorem freeS_zero {rs : List (Str × List Str)} : freeS rs (fun _ => 0) = fun _ => 0 := by
  funext o
  unfold freeS
  have : ∀ l : List (Str × List Str), (l.map fun _ => (0 : Int)).sum = 0 := fun l => by
    induction l with
    | nil => rfl
    | cons a l ih => rw [List.map_cons, List.sum_cons, ih]; rfl
  exact this _
section
variable {M : Mem} {p pa pk pp ph : Nat} {ss : List Str} {rs : List (Str × List Str)} {st : Str → Int}
theorem tab_pp : List.lookup ("put_places" : Str) tab_put_row = some f_put_places := rfl
theorem putrow_ok {d : D} (h : StandP M p pa pk pp ph ss rs (freeS rs st) st) (W : Town ss rs) (hc : canB rs st d = true) : Gv (f_put_row [.ptr p, d] M) fun _ M' => StandP M' p pa pk pp ph ss rs (freeS rs (putS st d)) (putS st d) ∧ M'.length = M.length ∧ ∀ j, j ≠ pa → j ≠ pk → M'[j]? = M[j]? := by
  refine v_body rfl ?_
  unfold b_put_row
  rcases can_cases hc with ⟨r, n, hr, rfl, h1, _⟩ | ⟨r, hr, rfl, h1⟩
  · refine v_seq (v_asg (v_op ?_))
    walk_at "gos"
    refine ⟨.str "unlock", rfl, ?_⟩
    refine ⟨.fn "put_places", rfl, ?_⟩
    refine v_thn (v_drop (v_callL rfl tab_pp ?_))
    walk_at "gos"
    refine ⟨rfl, ?_⟩
    refine v_body rfl ?_
    unfold b_put_places
    refine v_ifS (v_tst (v_op (v_op ?_)))
    walk_at "gos"
    refine ⟨.str "unlock", rfl, ?_⟩
    walk_at "gos"
    refine ⟨_, eq_ss, ?_⟩
    walk_at "gos"
    rw [decide_eq_true rfl]
    refine iteT (v_drop (v_fn (v_cons (v_var rfl (v_cons (v_op ?_))))))
    walk_at "gos"
    refine ⟨.str r.1, rfl, ?_⟩
    walk_at "gos"
    refine ⟨.int n, rfl, ?_⟩
    walk_at "gos"
    refine ⟨rfl, (move_ok h W hr).imp ?_⟩
    rintro _ M' q
    exact q
  · refine v_seq (v_asg (v_op ?_))
    walk_at "gos"
    refine ⟨.str "lock", rfl, ?_⟩
    refine ⟨.fn "put_places", rfl, ?_⟩
    refine v_thn (v_drop (v_callL rfl tab_pp ?_))
    walk_at "gos"
    refine ⟨rfl, ?_⟩
    refine v_body rfl ?_
    unfold b_put_places
    refine v_ifS (v_tst (v_op (v_op ?_)))
    walk_at "gos"
    refine ⟨.str "lock", rfl, ?_⟩
    walk_at "gos"
    refine ⟨_, eq_ss, ?_⟩
    walk_at "gos"
    rw [decide_eq_false (Ne.symm ul_ne)]
    refine iteF (v_drop (v_fn (v_cons (v_var rfl (v_cons (v_op ?_))))))
    walk_at "gos"
    refine ⟨.str r.1, rfl, ?_⟩
    walk_at "gos"
    refine ⟨rfl, (move_ok h W hr).imp ?_⟩
    rintro _ M' q
    exact q
end

/-- a field is put into the object at n; all else stays -/
theorem fld_step {M0 M : Mem} {n : Nat} {x fl : Str} {f : XE} {η : Dv} {PF : Fl → Mem → Prop} (hg : M0.length ≤ n) (hv : η[0]? = some (some (.ptr n))) (h : Gv (f η M) fun d M1 => ∃ fs, M1[n]? = some (.ins x fs) ∧ fs.length < 1000 ∧ Gr M0 M1 ∧ ∀ M2, M2[n]? = some (.ins x (putFD fl d fs)) → M2.length = M1.length → (∀ j, j ≠ n → M2[j]? = M1[j]?) → Gr M0 M2 → PF (.nx η) M2) : Gv (xSetF x fl f (xVar 0) η M) PF := by
  refine v_setF (h.imp ?_)
  rintro d M1 ⟨fs, h1, h2, h3, h4⟩
  refine v_var hv ⟨n, fs, rfl, h1, h2, ?_⟩
  exact h4 _ (List.getElem?_set_self (List.getElem?_eq_some_iff.mp h1).1) (by simp) (fun j hj => List.getElem?_set_ne (Ne.symm hj)) (h3.set hg)
theorem app_at {M : Mem} {o : Ob} : (M ++ [o])[M.length]? = some o ∧ (M ++ [o]).length = M.length + 1 ∧ ∀ j, j < M.length → (M ++ [o])[j]? = M[j]? :=
  ⟨by simp, by simp, fun j hj => List.getElem?_append_left hj⟩
theorem putK_new {acc : List (L2.Key × D)} {k : L2.Key} {v : D} (h : ∀ q ∈ acc, q.1 ≠ k) : putD acc k v = acc ++ [(k, v)] := by
  unfold putD
  rw [if_neg]
  rw [List.any_eq_true]
  rintro ⟨q, hq, e⟩
  exact h q hq (by simpa using e)
def kRoom (d : D) : L2.Key := match d with
  | .tup [.str s, _] => Sum.inr s
  | _ => Sum.inl 0
theorem foldl_putK : ∀ (l : List (Str × List Str)) (acc : List (L2.Key × D)), (∀ r ∈ l, ∀ q ∈ acc, q.1 ≠ Sum.inr r.1) → (l.map (·.1)).Nodup → (l.map roomD).foldl (fun a d => putD a (kRoom d) (D.int 0)) acc = acc ++ l.map fun r => ((Sum.inr r.1 : L2.Key), D.int 0)
  | [], acc, _, _ => by simp
  | r :: l, acc, h1, nd => by
    rw [List.map_cons, List.nodup_cons] at nd
    rw [List.map_cons, List.foldl_cons]
    have e : kRoom (roomD r) = Sum.inr r.1 := rfl
    rw [e, putK_new (h1 r (List.mem_cons_self ..)), foldl_putK l _ ?_ nd.2]
    · simp
    · intro u hu q hq
      rcases List.mem_append.mp hq with hq | hq
      · exact h1 u (List.mem_cons_of_mem _ hu) q hq
      · rw [List.mem_singleton.mp hq]
        intro z
        exact nd.1 (Sum.inr.inj z ▸ List.mem_map.mpr ⟨u, hu, rfl⟩)
theorem v_dict0T {η : Dv} {M : Mem} {P : D → Mem → Prop} (hp : P (.ptr M.length) (M ++ [.dT []])) : Gv (xDict0T η M) P := gv_ok hp
theorem stand_init_ok {M0 M : Mem} {n : Nat} {ss : List Str} {rs : List (Str × List Str)} (W : Town ss rs) (hn : M[n]? = some (.ins "Stand" [])) (g0 : Gr M0 M) (hg : M0.length ≤ n) (hlast : M.length = n + 1) :
    Gv (f_Stand_init [.ptr n, .tup (ss.map D.str), .tup (rs.map roomD)] M) fun r M' => r = .non ∧ Gr M0 M' ∧ StandP M' n (n + 1) (n + 2) (n + 3) (n + 4) ss rs (fun _ => 0) (fun _ => 0) := by
  have hsl := setS_len W.K.le
  have hrl := W.le
  refine v_body rfl ?_
  unfold b_Stand_init
  refine v_seq (fld_step hg rfl (v_var rfl ⟨_, hn, by simp, g0, fun M1 a1 a2 a3 g1 => ?_⟩))
  refine v_thn (v_seq (fld_step hg rfl (v_var rfl ⟨_, a1, Nat.lt_of_sub_eq_succ rfl, g1, fun M2 b1 b2 b3 g2 => ?_⟩)))
  refine v_thn (v_seq (fld_step hg rfl (v_fn ?_)))
  walk_at "gos"
  refine ⟨rfl, (sets_of_ok W.K.le).imp ?_⟩
  rintro _ _ ⟨rfl, e0⟩
  subst e0
  refine ⟨_, b1, Nat.lt_of_sub_eq_succ rfl, g2, fun M3 c1 c2 c3 g3 => ?_⟩
  have eC : putFD "sets" (.lst ((setSort (sets1 ss)).map tupD)) (putFD "plan" (.tup (rs.map roomD)) (putFD "kinds" (.tup (ss.map D.str)) [])) = ([("kinds", .tup (ss.map D.str)), ("plan", .tup (rs.map roomD)), ("sets", .lst ((setS ss).map tupD))] : List (Str × D)) := rfl
  rw [eC] at c1
  have l3 : M3.length = n + 1 := by omega
  refine v_thn (v_seq (fld_step hg rfl (v_dcT (v_sq (v_fldP rfl c1 rfl ⟨_, rfl, by rw [List.length_map]; exact Nat.le_trans hsl (by decide), ?_⟩)))))
  refine (v_dc_map kOf (fun _ => .int 0) _ [] fun x hx => ?_).imp ?_
  · obtain ⟨o, ho, rfl⟩ := List.mem_map.mp hx
    have ho := mem_setS.mp ho
    exact v_gn (v_yes ⟨rfl, v_var rfl ⟨by rw [asKey_tup ho.1, kOf_tup ho.1], v_c ⟨rfl, rfl⟩⟩⟩)
  rintro acc Mx ⟨rfl, e0⟩
  subst Mx
  have eD : ((setS ss).map tupD).foldl (fun a d => putD a (kOf d) (D.int 0)) [] = amF ss (fun _ => 0) := by
    rw [foldl_put (fun _ => D.int 0) _ [] (fun o ho => (mem_setS.mp ho).1) (fun o _ q hq => by simp at hq) (setS_nodup W.K.nodup)]
    rfl
  rw [eD, l3]
  obtain ⟨p1, p2, p3⟩ := app_at (M := M3) (o := .dT (amF ss fun _ => 0))
  have g3' : Gr M0 (M3 ++ [Ob.dT (amF ss fun _ => 0)]) := g3.trans (Gr.app _ _)
  generalize M3 ++ [Ob.dT (amF ss fun _ => 0)] = M4 at p1 p2 p3 g3'
  rw [l3] at p1 p2 p3
  refine ⟨_, by rw [p3 n (by omega)]; exact c1, by simp, g3', fun M5 d1 d2 d3 g5 => ?_⟩
  have am5 : M5[n + 1]? = some (.dT (amF ss fun _ => 0)) := by rw [d3 _ (by omega)]; exact p1
  have l5 : M5.length = n + 2 := by omega
  clear p1 p2 p3 d2 d3 c1 c2 c3 b1 b2 b3 a1 a2 a3 g1 g2 g3
  refine v_thn (v_seq (fld_step hg rfl (v_dcK (v_sq (v_var rfl ⟨_, rfl, by rw [List.length_map]; omega, ?_⟩)))))
  refine (v_dcK_map kRoom (fun _ => .int 0) _ [] fun x hx => ?_).imp ?_
  · obtain ⟨r, hr, rfl⟩ := List.mem_map.mp hx
    refine gv_ok (v_yes ⟨rfl, v_var rfl ⟨rfl, v_c ⟨rfl, rfl⟩⟩⟩)
  rintro acc Mx ⟨rfl, e0⟩
  subst Mx
  have eE : (rs.map roomD).foldl (fun a d => putD a (kRoom d) (D.int 0)) [] = stK rs (fun _ => 0) := by
    rw [foldl_putK rs [] (fun r _ q hq => by simp at hq) W.nd]
    rfl
  rw [eE, l5]
  obtain ⟨p1, p2, p3⟩ := app_at (M := M5) (o := .dK (stK rs fun _ => 0))
  have g5' : Gr M0 (M5 ++ [Ob.dK (stK rs fun _ => 0)]) := g5.trans (Gr.app _ _)
  generalize M5 ++ [Ob.dK (stK rs fun _ => 0)] = M6 at p1 p2 p3 g5'
  rw [l5] at p1 p2 p3
  refine ⟨_, by rw [p3 n (by omega)]; exact d1, Nat.lt_of_sub_eq_succ rfl, g5', fun M7 e1 e2 e3 g7 => ?_⟩
  have am7 : M7[n + 1]? = some (.dT (amF ss fun _ => 0)) := by rw [e3 _ (by omega), p3 _ (by omega)]; exact am5
  have st7 : M7[n + 2]? = some (.dK (stK rs fun _ => 0)) := by rw [e3 _ (by omega)]; exact p1
  have l7 : M7.length = n + 3 := by omega
  clear p1 p2 p3 e2 e3 am5 d1 g5 g5'
  refine v_thn (v_seq (fld_step hg rfl (v_lstM (v_nil ⟨by simp, ?_⟩))))
  rw [l7]
  obtain ⟨p1, p2, p3⟩ := app_at (M := M7) (o := .lst [])
  have g7' : Gr M0 (M7 ++ [Ob.lst []]) := g7.trans (Gr.app _ _)
  generalize M7 ++ [Ob.lst []] = M8 at p1 p2 p3 g7'
  rw [l7] at p1 p2 p3
  refine ⟨_, by rw [p3 n (by omega)]; exact e1, Nat.lt_of_sub_eq_succ rfl, g7', fun M9 f1 f2 f3 g9 => ?_⟩
  have am9 : M9[n + 1]? = some (.dT (amF ss fun _ => 0)) := by rw [f3 _ (by omega), p3 _ (by omega)]; exact am7
  have st9 : M9[n + 2]? = some (.dK (stK rs fun _ => 0)) := by rw [f3 _ (by omega), p3 _ (by omega)]; exact st7
  have pe9 : M9[n + 3]? = some (.lst []) := by rw [f3 _ (by omega)]; exact p1
  have l9 : M9.length = n + 4 := by omega
  clear p1 p2 p3 f2 f3 am7 st7 e1 g7 g7'
  refine v_thn (v_seq (fld_step hg rfl (v_c ⟨_, f1, Nat.lt_of_sub_eq_succ rfl, g9, fun M10 h1 h2 h3 g10 => ?_⟩)))
  have am10 : M10[n + 1]? = some (.dT (amF ss fun _ => 0)) := by rw [h3 _ (by omega)]; exact am9
  have st10 : M10[n + 2]? = some (.dK (stK rs fun _ => 0)) := by rw [h3 _ (by omega)]; exact st9
  have pe10 : M10[n + 3]? = some (.lst []) := by rw [h3 _ (by omega)]; exact pe9
  have l10 : M10.length = n + 4 := by omega
  clear h2 h3 am9 st9 pe9 f1 g9
  refine v_thn (fld_step hg rfl (v_dict0T ?_))
  rw [l10]
  obtain ⟨p1, p2, p3⟩ := app_at (M := M10) (o := .dT [])
  have g10' : Gr M0 (M10 ++ [Ob.dT []]) := g10.trans (Gr.app _ _)
  generalize M10 ++ [Ob.dT []] = M11 at p1 p2 p3 g10'
  rw [l10] at p1 p2 p3
  refine ⟨_, by rw [p3 n (by omega)]; exact h1, Nat.lt_of_sub_eq_succ rfl, g10', fun M12 k1 k2 k3 g12 => ?_⟩
  refine ⟨rfl, g12, ?_, ?_, ?_, ?_, by omega, by omega, by omega, by omega, by omega⟩
  · exact k1
  · rw [k3 _ (by omega), p3 _ (by omega)]; exact am10
  · rw [k3 _ (by omega), p3 _ (by omega)]; exact st10
  · rw [k3 _ (by omega), p3 _ (by omega)]; exact pe10

def badAt (rs : List (Str × List Str)) : (Str → Int) → List D → Option Nat
  | _, [] => none
  | st, d :: ds => if canB rs st d = true then (badAt rs (putS st d) ds).map (· + 1) else some 0
theorem badAt_cons {rs : List (Str × List Str)} {st : Str → Int} {d : D} {ds : List D} : badAt rs st (d :: ds) = if canB rs st d = true then (badAt rs (putS st d) ds).map (· + 1) else some 0 := rfl
def endS (st : Str → Int) (ds : List D) : Str → Int := ds.foldl putS st
theorem badAt_pre {rs : List (Str × List Str)} : ∀ {pre : List D} {st : Str → Int} {suf : List D}, badAt rs st pre = none → badAt rs st (pre ++ suf) = (badAt rs (endS st pre) suf).map (· + pre.length)
  | [], st, suf, _ => by simp [endS]
  | d :: pre, st, suf, h => by
    unfold badAt at h
    by_cases hc : canB rs st d = true
    · rw [if_pos hc] at h
      have ih := badAt_pre (suf := suf) (Option.map_eq_none_iff.mp h)
      rw [List.cons_append]
      rw [badAt_cons, if_pos hc, ih, Option.map_map]
      show _ = (badAt rs (endS (putS st d) pre) suf).map _
      congr 1
    · rw [if_neg hc] at h
      cases h
theorem endS_app (st : Str → Int) (pre : List D) (d : D) : endS st (pre ++ [d]) = putS (endS st pre) d := by simp [endS]
theorem gr_two {M0 M M' : Mem} {a b : Nat} (g : Gr M0 M) (hl : M'.length = M.length) (h : ∀ j, j ≠ a → j ≠ b → M'[j]? = M[j]?) (ha : M0.length ≤ a) (hb : M0.length ≤ b) : Gr M0 M' := by
  refine ⟨M'.drop M0.length, ?_⟩
  have gl := g.len
  refine List.ext_getElem? fun j => ?_
  by_cases hj : j < M0.length
  · rw [List.getElem?_append_left hj, h j (by omega) (by omega)]
    obtain ⟨T, rfl⟩ := g
    rw [List.getElem?_append_left hj]
  · rw [List.getElem?_append_right (by omega), List.getElem?_drop]
    congr 1
    omega
def nums (k : Nat) (l : List D) : List D := (l.zipIdx k).map fun q => .tup [.int (q.2 : Nat), q.1]
theorem nums_cons (k : Nat) (d : D) (l : List D) : nums k (d :: l) = .tup [.int (k : Nat), d] :: nums (k + 1) l := rfl
theorem isi_ll {M : Mem} {ds : List D} : bIsi M [.lst ds, .raw (.ty "list")] = some (.bl true) := by
  simp only [bIsi, two, tyN, Option.bind_some, show kitB "list" "list" = some true by decide +kernel]
  rfl
noncomputable def toldD (ss : List Str) (rs : List (Str × List Str)) (st : Str → Int) : D := .tup [tabF ss (freeS rs st), .lst (rs.map fun r => .tup [.str r.1, .int (st r.1)]), .lst []]
theorem stand_of_ok {M : Mem} {ss : List Str} {rs : List (Str × List Str)} {ds : List D} (W : Town ss rs) (hr : ∀ d ∈ ds, RowOk d) : Go (f_stand_of [.tup (ss.map D.str), .tup (rs.map roomD), .lst ds] M)
    (fun x M' => badAt rs (fun _ => 0) ds = none ∧ x = toldD ss rs (endS (fun _ => 0) ds) ∧ Gr M M')
    (fun e M' => ∃ k, badAt rs (fun _ => 0) ds = some k ∧ e = ⟨"NoBook", [("called", .str "NoBook"), ("at", .int (k : Nat))]⟩ ∧ Gr M M') := by
  have hsl := setS_len W.K.le
  have hrl := W.le
  refine go_body rfl ?_
  unfold b_stand_of
  refine go_seq (go_ok (v_ifS (v_not (v_tru (v_call ?_)))))
  walk_at "gos"
  refine ⟨_, isi_ll, ?_⟩
  walk_at "gos"
  refine iteF (v_nx ?_)
  show Go (xSeq _ _ _ M) _ _
  refine go_seq (go_ok (v_asg (v_make ?_)))
  walk_at "gos"
  refine ⟨rfl, ?_⟩
  refine (stand_init_ok (M0 := M) W (by simp) (Gr.app _ _) (Nat.le_refl _) (by simp)).imp ?_
  rintro _ M1 ⟨rfl, g1, h1⟩
  refine ⟨rfl, ?_⟩
  generalize hp : M.length = p at h1
  show Go (xSeq _ _ _ M1) _ _
  refine go_seq (go_for (v_enumT ?_))
  walk_at "gos"
  refine ⟨ds, .inr rfl, ?_⟩
  refine go_forL (fun rest η Mx => ∃ (pre suf : List D) (a4 a5 : Option D), ds = pre ++ suf ∧ rest = nums pre.length suf ∧ badAt rs (fun _ => 0) pre = none ∧ NN rs (endS (fun _ => 0) pre) ∧ η = [some (.tup (ss.map D.str)), some (.tup (rs.map roomD)), some (.lst ds), some (.ptr p), a4, a5, none, none, none, none, none] ∧ StandP Mx p (p + 1) (p + 2) (p + 3) (p + 4) ss rs (freeS rs (endS (fun _ => 0) pre)) (endS (fun _ => 0) pre) ∧ Gr M Mx) _ ⟨[], ds, none, none, rfl, rfl, rfl, fun _ _ => Int.le_refl 0, rfl, ?_, g1⟩ ?_ ?_
  · show StandP M1 p (p + 1) (p + 2) (p + 3) (p + 4) ss rs (freeS rs fun _ => 0) (fun _ => 0)
    rw [freeS_zero]
    exact h1
  · rintro d r η Mx ⟨pre, suf, a4, a5, e1, e2, hb, hnn, rfl, hx, gx⟩
    cases suf with
    | nil => cases e2
    | cons y suf =>
      rw [nums_cons] at e2
      injection e2 with e2 e3
      subst e2 e3
      have hy : RowOk y := hr y (by rw [e1]; simp)
      refine gv_ok ?_
      refine go_seq (go_ifS (v_not (v_tru (v_fn ?_))))
      walk_at "gos"
      refine ⟨rfl, (canstand_ok hx W hy fun r hr1 hp1 o _ hm => free_pos hnn hr1 hp1 hm).imp ?_⟩
      rintro _ M2 ⟨rfl, g2⟩
      walk_at "gos"
      have hx2 := hx.gr g2
      have gx2 := gx.trans g2
      have eb := badAt_pre (suf := y :: suf) hb
      rw [← e1] at eb
      by_cases hc : canB rs (endS (fun _ => 0) pre) y = true
      · rw [hc]
        refine iteF ?_
        refine go_ok (v_nx ?_)
        show Go (xDrop _ _ M2) _ _
        refine go_ok (v_drop (v_fn ?_))
        walk_at "gos"
        refine ⟨rfl, (putrow_ok hx2 W hc).imp ?_⟩
        rintro _ M3 ⟨h3, hl3, ho3⟩
        refine ⟨pre ++ [y], suf, _, _, by rw [e1]; simp, by simp, ?_, ?_, rfl, ?_, ?_⟩
        · rw [badAt_pre hb]
          unfold badAt
          rw [if_pos hc]
          rfl
        · rw [endS_app]
          exact hnn.put hc
        · rw [endS_app]
          exact h3
        · exact gr_two gx2 hl3 ho3 (by omega) (by omega)
      · rw [Bool.not_eq_true] at hc
        rw [hc]
        refine iteT ?_
        refine go_raise ?_
        walk_at "gos"
        refine ⟨pre.length, ?_, rfl, gx2⟩
        rw [eb]
        unfold badAt
        rw [if_neg (by rw [hc]; simp)]
        simp
  · rintro η Mx ⟨pre, suf, a4, a5, e1, e2, hb, hnn, rfl, hx, gx⟩
    cases suf with
    | cons _ _ => cases e2
    | nil =>
      rw [List.append_nil] at e1
      subst e1
      show Go (xSeq _ _ _ Mx) _ _
      refine go_ok (v_seq (v_asg (v_table (v_cons (v_var rfl (v_cons (v_lc (v_sq (v_fldP rfl hx.ob rfl ⟨_, rfl, by rw [List.length_map]; exact Nat.le_trans hsl (by decide), ?_⟩)))))))))
      refine (v_lc_ma (e := tupD) (h := fun o => rowD (o, freeS rs (endS (fun _ => 0) ds) o)) (setS ss) ?_).imp ?_
      · intro o ho
        refine v_gn (v_tup (v_cons (v_var rfl (v_cons (v_op (v_fldP rfl hx.ob rfl ?_))))))
        walk_at "gos"
        refine ⟨_, by unfold gd; rw [get_am hx ho]; rfl, ?_⟩
        walk_at "gos"
        exact ⟨rfl, rfl, rfl⟩
      rintro _ My ⟨rfl, e0⟩
      subst My
      refine v_nil ⟨rfl, ss, _, (setS ss).map fun o => (o, freeS rs (endS (fun _ => 0) ds) o), rfl, W.K, .inr (.inl (by rw [List.map_map]; rfl)), ?_, ?_⟩
      · intro r hr1
        obtain ⟨o, ho, rfl⟩ := List.mem_map.mp hr1
        exact ho
      intro M2 g2
      have hx2 := hx.gr g2
      refine v_thn (v_ret (v_tup (v_cons (v_var rfl (v_cons (v_lc (v_sq (v_var rfl ⟨_, rfl, by rw [List.length_map]; omega, ?_⟩))))))))
      refine (v_lc_ma (e := roomD) (h := fun r => .tup [.str r.1, .int (endS (fun _ => 0) ds r.1)]) rs ?_).imp ?_
      · intro r hr1
        refine gv_ok (v_tup (v_cons (v_var rfl (v_cons (v_op (v_fldP rfl hx2.ob rfl ?_))))))
        walk_at "gos"
        refine ⟨_, by unfold gd; rw [get_st hx2, valD_st W.nd hr1]; rfl, ?_⟩
        walk_at "gos"
        exact ⟨rfl, rfl, rfl⟩
      rintro _ My ⟨rfl, e0⟩
      subst My
      refine v_cons (v_lcP (v_fldP rfl hx2.ob rfl ⟨p + 3, [], rfl, hx2.pe, by simp, ?_⟩))
      have e0 : ∀ (gt : XG) (t : XT) (f : XE) (η : Dv), xLcLP (some (p + 3)) [] gt t f [] η M2 = .ok [] M2 := fun gt t f η => by
        unfold xLcLP
        rw [if_pos (show Ck (some (p + 3)) [] M2 from hx2.pe)]
      rw [e0]
      refine gv_ok (v_nil ⟨by simp, hb, ?_, gx.trans g2⟩)
      unfold toldD
      rw [tabF_congr]
      intro o ho
      exact lastV_map _ _ (setS_nodup W.K.nodup) o ho

theorem ne_ii {M : Mem} {i j : Int} : eqM true M (.int i) (.int j) = some (.bl (!decide (i = j))) := by
  have h : (PyData.int i).depth ≤ 60 := by simp [PyData.depth]
  simp only [eqM, toPM, toP, Option.bind_some, h, if_true, PyData.eqv]
  congr 2
/-! the law's side: rows that unlock and lock -/
def rwD : Str × Option Int → D
  | (r, some n) => .tup [.str "unlock", .str r, .int n]
  | (r, none) => .tup [.str "lock", .str r]
def rwP : Str × Option Int → PyData
  | (r, some n) => .tuple [.str "unlock", .str r, .int n]
  | (r, none) => .tuple [.str "lock", .str r]
theorem toP_rw (q : Str × Option Int) : toP (rwD q) = some (rwP q) := by
  rcases q with ⟨r, _ | n⟩ <;> simp [rwD, rwP, toP, toPs]
theorem toPs_mapE {α : Type} {e : α → D} {p : α → PyData} (h : ∀ a, toP (e a) = some (p a)) : ∀ l : List α, toPs (l.map e) = some (l.map p)
  | [] => by simp [toPs]
  | a :: l => by simp [toPs, h a, toPs_mapE h l]
theorem depth_mapE {α : Type} {p : α → PyData} (h : ∀ a, (p a).depth ≤ 10) : ∀ l : List α, PyData.depthAll (l.map p) ≤ 10
  | [] => by simp [PyData.depthAll]
  | a :: l => by
    have h1 := depth_mapE h l
    have h2 := h a
    simp only [List.map_cons, PyData.depthAll]
    omega
theorem ne_self {M : Mem} {x y : D} {p : PyData} (h1 : toPM M x = some p) (h2 : toPM M y = some p) (hp : p.plain = true) (hd : p.depth ≤ 60) : eqM true M x y = some (.bl false) := by
  simp only [eqM, h1, h2, Option.bind_some, if_pos hd, PySem.SeqAt.eqv_refl_plain p hp]
  rfl
theorem ne_list {α : Type} {e : α → D} {p : α → PyData} (h : ∀ a, toP (e a) = some (p a)) (hd : ∀ a, (p a).depth ≤ 10) {M : Mem} {l : List α} {y : D} (hy : y = .lst (l.map e) ∨ ∃ z, y = .ptr z ∧ M[z]? = some (.lst (l.map e))) : eqM true M (.lst (l.map e)) y = some (.bl false) := by
  have h1 : toP (.lst (l.map e)) = some (.list (l.map p)) := by simp [toP, toPs_mapE h]
  refine ne_self (p := .list (l.map p)) h1 ?_ (toP_plain h1) ?_
  · rcases hy with rfl | ⟨z, rfl, hz⟩
    · exact h1
    · simp [toPM, hz, toPs_mapE h]
  · have := depth_mapE hd l
    rw [PyData.depth]
    omega
theorem depth_rw (q : Str × Option Int) : (rwP q).depth ≤ 10 := by
  rcases q with ⟨r, _ | n⟩ <;> simp [rwP, PyData.depth, PyData.depthAll]
def townD (ss : List Str) (rs : List (Str × List Str)) : D := .tup [.tup (ss.map D.str), .tup (rs.map roomD)]
theorem barred_ok {M : Mem} {ss : List Str} {rs : List (Str × List Str)} {ds : List D} {k : Nat} (W : Town ss rs) (hr : ∀ d ∈ ds, RowOk d) (hb : badAt rs (fun _ => 0) ds = some k) (hk : k ≤ 1000) : Gv (f_law_barred [townD ss rs, .lst ds, .int (k : Nat)] M) fun r M' => r = .bl true ∧ Gr M M' := by
  refine v_body rfl ?_
  unfold b_law_barred
  refine v_seq (v_barred (i := (k : Int)) rfl (by simp) (by simp) ?_ ?_)
  · rw [Int.natAbs_natCast]
    have h1 : Nat.log2 k ≤ k := Nat.log2_le_self k
    omega
  · refine go_fn (v_cons (v_op ?_))
    walk_at "gos"
    refine ⟨.tup (ss.map D.str), rfl, ?_⟩
    walk_at "gos"
    refine ⟨.tup (rs.map roomD), rfl, ?_⟩
    walk_at "gos"
    refine ⟨rfl, (stand_of_ok W hr).imp ?_ ?_⟩
    · rintro _ _ ⟨h1, _⟩
      rw [hb] at h1
      cases h1
    · rintro e M' ⟨k', h1, rfl, g⟩
      rw [hb] at h1
      cases h1
      exact ⟨rfl, rfl, v_thr ⟨rfl, g⟩⟩
def keyP (st : Str → Int) (r : Str × List Str) : PyData := .tuple [.str r.1, .int (st r.1)]
theorem right_ok {M : Mem} {pr pd : Nat} {ss : List Str} {rs : List (Str × List Str)} {qs : List (Str × Option Int)} (W : Town ss rs) (h1 : M[pr]? = some (.lst (qs.map rwD))) (h2 : M[pd]? = some (.dK (stK rs (endS (fun _ => 0) (qs.map rwD))))) (hr : ∀ d ∈ qs.map rwD, RowOk d) (hb : badAt rs (fun _ => 0) (qs.map rwD) = none) : Gv (f_law_right [townD ss rs, .ptr pr, .ptr pd] M) fun r M' => r = .bl true ∧ Gr M M' := by
  have hsl := setS_len W.K.le
  have hrl := W.le
  refine v_body rfl ?_
  unfold b_law_right
  refine v_seq (v_asg (v_call ?_))
  walk_at "gos"
  refine ⟨.lst (qs.map rwD), by simp [bList, one, asL, h1], ?_⟩
  refine v_thn (v_seq (v_asg (v_fnC ?_)))
  walk_at "gos"
  refine ⟨.tup (ss.map D.str), rfl, ?_⟩
  walk_at "gos"
  refine ⟨.tup (rs.map roomD), rfl, ?_⟩
  walk_at "gos"
  refine ⟨rfl, gv_go ((stand_of_ok W hr).imp ?_ ?_)⟩
  rotate_left
  · rintro e M' ⟨k, h3, _⟩
    rw [hb] at h3
    cases h3
  rintro _ M1 ⟨_, rfl, g1⟩
  have h1' := g1.at h1
  have h2' := g1.at h2
  generalize endS (fun _ => 0) (qs.map rwD) = st at h2 h2'
  have hgd : ∀ {Mx : Mem}, Mx[pd]? = some (.dK (stK rs st)) → ∀ r ∈ rs, gd Mx (.ptr pd) (.str r.1) = some (.int (st r.1)) := fun {Mx} hx r hr1 => by
    have e1 : asDT Mx (.ptr pd) = none := by simp only [asDT, hx]
    have e2 : asDK Mx (.ptr pd) = some (stK rs st) := by simp only [asDK, hx]
    unfold gd dgetD
    rw [e1, e2]
    show (some (valD (stK rs st) (Sum.inr r.1))).bind id = _
    rw [valD_st W.nd hr1]
    rfl
  refine v_thn (v_seq (v_asg (v_lc (v_sq (v_op ?_)))))
  walk_at "gos"
  refine ⟨.tup (rs.map roomD), rfl, _, rfl, by rw [List.length_map]; omega, ?_⟩
  refine (v_lc_ma (e := roomD) (h := fun r => .tup [.str r.1, .int (st r.1)]) rs ?_).imp ?_
  · intro r hr1
    refine gv_ok (v_tup (v_cons (v_var rfl (v_cons (v_op ?_)))))
    walk_at "gos"
    refine ⟨_, hgd h2' r hr1, ?_⟩
    walk_at "gos"
    exact ⟨rfl, rfl, rfl⟩
  rintro _ My ⟨rfl, e0⟩
  subst My
  refine v_thn (v_seq (v_ifS (v_or (v_tst (v_op ?_)))))
  walk_at "gos"
  refine ⟨_, ne_list toP_rw depth_rw (.inr ⟨pr, rfl, h1'⟩), ?_⟩
  walk_at "gos"
  refine iteF (v_or (v_tst (v_op (v_op ?_))))
  walk_at "gos"
  refine ⟨.lst (rs.map fun r => .tup [.str r.1, .int (st r.1)]), rfl, ?_⟩
  walk_at "gos"
  refine ⟨_, ne_list (p := keyP st) (fun r => by simp [keyP, toP, toPs]) (fun r => by simp [keyP, PyData.depth, PyData.depthAll]) (.inl rfl), ?_⟩
  walk_at "gos"
  refine iteF (v_tst (v_op (v_op ?_)))
  walk_at "gos"
  refine ⟨.lst [], rfl, ?_⟩
  walk_at "gos"
  refine ⟨.bl false, by simp [eqM, toPM, toP, toPs, PyData.depth, PyData.depthAll, PyData.eqv, PyData.eqvAll], ?_⟩
  walk_at "gos"
  refine iteF (v_nx (v_thn (v_seq (v_for (PI := fun _ _ => True) (v_sq (v_fn (v_cons (v_op ?_))))))))
  walk_at "gos"
  refine ⟨.tup (ss.map D.str), rfl, ?_⟩
  walk_at "gos"
  refine ⟨rfl, (law_sets_ok W.K.le).imp ?_⟩
  rintro _ M2 ⟨rfl, g2⟩
  have h2'' := g2.at h2'
  refine ⟨_, rfl, ?_⟩
  refine v_forL (fun rest η Mx => (∃ a6 a7, η = [some (townD ss rs), some (.ptr pr), some (.ptr pd), some (.lst (qs.map rwD)), some (toldD ss rs st), some (.lst (rs.map fun r => .tup [.str r.1, .int (st r.1)])), a6, a7, none, none]) ∧ (∀ d ∈ rest, ∃ o ∈ setS ss, d = tupD o) ∧ Mx = M2) _ ⟨⟨_, _, rfl⟩, fun d hd => ?_, rfl⟩ ?_ ?_
  · obtain ⟨o, ho, rfl⟩ := List.mem_map.mp hd
    exact ⟨o, ho, rfl⟩
  · rintro d r η Mx ⟨⟨a6, a7, rfl⟩, hd, rfl⟩
    obtain ⟨o, ho, rfl⟩ := hd d (List.mem_cons_self ..)
    refine v_gn (v_seq (v_asg (v_call (v_cons (v_lc (v_sq (v_op ?_)))))))
    walk_at "gos"
    refine ⟨.tup (rs.map roomD), rfl, _, rfl, by rw [List.length_map]; omega, ?_⟩
    refine (v_lc_fa (e := roomD) (p := fun r => meets r.2 o) (h := fun r => .int (st r.1)) rs ?_).imp ?_
    · intro r hr1
      have hl : r.2.length ≤ 1000 := Nat.le_trans (mem_setS.mp (W.tk r hr1)).2.length_le (Nat.le_trans W.K.le (by decide))
      refine gv_ok (v_tru (v_fn ?_))
      walk_at "gos"
      refine ⟨rfl, (share_ok hl).imp ?_⟩
      rintro _ _ ⟨rfl, rfl⟩
      refine ⟨_, tru_b, rfl, rfl, fun _ => v_op ?_⟩
      walk_at "gos"
      exact ⟨_, hgd h2'' r hr1, rfl, rfl⟩
    rintro _ My ⟨rfl, e0⟩
    subst My
    refine v_nil ⟨_, bsum_map, ?_⟩
    refine v_thn (v_ifS (v_tst (v_op (v_meth (v_op ?_)))))
    walk_at "gos"
    refine ⟨tabF ss (freeS rs st), rfl, _, rfl, tab_no, ?_⟩
    walk_at "gos"
    refine ⟨rfl, (amount_ok W.K ho).imp ?_⟩
    rintro _ My ⟨rfl, e0⟩
    subst My
    walk_at "gos"
    refine ⟨_, ne_ii, ?_⟩
    walk_at "gos"
    rw [decide_eq_true (show freeS rs st o = ((rs.filter fun r => meets r.2 o).map fun r => st r.1).sum from rfl)]
    refine iteF (v_nx ?_)
    exact ⟨⟨_, _, rfl⟩, fun y hy => hd y (List.mem_cons_of_mem _ hy), rfl⟩
  · rintro η Mx ⟨⟨a6, a7, rfl⟩, _, rfl⟩
    walk_at "gos"
    exact ⟨rfl, g1.trans g2⟩

def oddL (s : Str) : List D := [.tup [.str "unlock", .str s, .int 0], .tup [.str "unlock", .str s, .int 51], .tup [.str "unlock", .str s, .bl true], .tup [.str "unlock", .str s, .str "1"], .tup [.str "unlock", .str s],
  .tup [.str "unlock", .str s, .int 1, .int 1], .tup [.str "unlock", .str s, .int (-1)], .tup [.str "unlock", .str (s ++ "x"), .int 1], .tup [.str "unlock", .str "", .int 1],
  .tup [.str "lock"], .tup [.str "lock", .str s, .int 1], .tup [.str "lock", .non], .tup [.str "lock", .str (s ++ "x")], .tup [.str "Lock", .str s], .lst [.str "lock", .str s],
  .tup [.str "unlock", .lst [.str s], .int 1], .tup [.str "unlock", .int 1, .str s], .tup [.str "lock", .tup [.str s]], .tup [], .str ("lock " ++ s), .non]
theorem odd_fine {ss : List Str} {rs : List (Str × List Str)} (W : Town ss rs) (hpf : PfN (rs.map (·.1))) {r : Str × List Str} (hr : r ∈ rs) : ∀ d ∈ oddL r.1, RowOk d ∧ ∀ st, canB rs st d = false := by
  have hs : r.1.length ≤ 8 := W.sh r hr
  have hx : (r.1 ++ "x").length ≤ 1000 := by
    rw [len_append]
    have : ("x" : Str).length = 1 := by decide +kernel
    omega
  have hy : ("lock " ++ r.1 : Str).length ≤ 1000 := by
    rw [len_append]
    have : ("lock " : Str).length = 5 := by decide +kernel
    omega
  have hu : ("unlock" : Str).length ≤ 1000 := by decide +kernel
  have hl : ("lock" : Str).length ≤ 1000 := by decide +kernel
  have hL : ("Lock" : Str).length ≤ 1000 := by decide +kernel
  have h1 : ("1" : Str).length ≤ 1000 := by decide +kernel
  have he : ("" : Str).length ≤ 1000 := by decide +kernel
  have hr8 : r.1.length ≤ 1000 := by omega
  have nx : (r.1 ++ "x") ∉ rs.map (·.1) := fun z => by
    have e := hpf.2 r.1 (List.mem_map.mpr ⟨r, hr, rfl⟩) _ z "x" rfl
    have := congrArg Str.length e
    rw [len_append] at this
    have h2 : ("x" : Str).length = 1 := by decide +kernel
    omega
  have ne : ("" : Str) ∉ rs.map (·.1) := fun z => hpf.1 _ z rfl
  have n1 : ¬ ("lock" : Str) = "unlock" := Ne.symm ul_ne
  have n2 : ¬ ("unlock" : Str) = "lock" := ul_ne
  have n3 : ¬ ("Lock" : Str) = "lock" := by decide +kernel
  have hd : ∀ ds : List D, ds.length ≤ 1000 → (∀ x ∈ ds, Fine1 x) → (∀ w ds', ds = .str w :: ds' → w = "unlock" ∨ w = "lock" ∨ w = "Lock") → RowOk (.tup ds) := fun ds a b c => ⟨fine_tup a b, fun w ds' e => by injection e with e; exact c w ds' e⟩
  intro d hd'
  simp only [oddL, List.mem_cons, List.not_mem_nil, or_false] at hd'
  rcases hd' with rfl | rfl | rfl | rfl | rfl | rfl | rfl | rfl | rfl | rfl | rfl | rfl | rfl | rfl | rfl | rfl | rfl | rfl | rfl | rfl | rfl
  case _ => exact ⟨hd _ (by simp) (by simp [Fine1, hu, hr8]) (fun w ds' e => by injection e with e; injection e with e; exact .inl e.symm), fun st => by simp [canB, countB]⟩
  case _ => exact ⟨hd _ (by simp) (by simp [Fine1, hu, hr8]) (fun w ds' e => by injection e with e; injection e with e; exact .inl e.symm), fun st => by simp [canB, countB]⟩
  case _ => exact ⟨hd _ (by simp) (by simp [Fine1, hu, hr8]) (fun w ds' e => by injection e with e; injection e with e; exact .inl e.symm), fun st => by simp [canB, countB]⟩
  case _ => exact ⟨hd _ (by simp) (by simp [Fine1, hu, hr8, h1]) (fun w ds' e => by injection e with e; injection e with e; exact .inl e.symm), fun st => by simp [canB, countB]⟩
  case _ => exact ⟨hd _ (by simp) (by simp [Fine1, hu, hr8]) (fun w ds' e => by injection e with e; injection e with e; exact .inl e.symm), fun st => by simp [canB, n2]⟩
  case _ => exact ⟨hd _ (by simp) (by simp [Fine1, hu, hr8]) (fun w ds' e => by injection e with e; injection e with e; exact .inl e.symm), fun st => by simp [canB]⟩
  case _ => exact ⟨hd _ (by simp) (by simp [Fine1, hu, hr8]) (fun w ds' e => by injection e with e; injection e with e; exact .inl e.symm), fun st => by simp [canB, countB]⟩
  case _ => exact ⟨hd _ (by simp) (by simp [Fine1, hu, hx]) (fun w ds' e => by injection e with e; injection e with e; exact .inl e.symm), fun st => by simp only [canB, roomB, decide_eq_false nx]; simp⟩
  case _ => exact ⟨hd _ (by simp) (by simp [Fine1, hu, he]) (fun w ds' e => by injection e with e; injection e with e; exact .inl e.symm), fun st => by simp only [canB, roomB, decide_eq_false ne]; simp⟩
  case _ => exact ⟨hd _ (by simp) (by simp [Fine1, hl]) (fun w ds' e => by injection e with e; injection e with e; exact .inr (.inl e.symm)), fun st => by simp [canB]⟩
  case _ => exact ⟨hd _ (by simp) (by simp [Fine1, hl, hr8]) (fun w ds' e => by injection e with e; injection e with e; exact .inr (.inl e.symm)), fun st => by simp [canB, n1]⟩
  case _ => exact ⟨hd _ (by simp) (by simp [Fine1, hl]) (fun w ds' e => by injection e with e; injection e with e; exact .inr (.inl e.symm)), fun st => by simp [canB, keyB]⟩
  case _ => exact ⟨hd _ (by simp) (by simp [Fine1, hl, hx]) (fun w ds' e => by injection e with e; injection e with e; exact .inr (.inl e.symm)), fun st => by simp only [canB, keyB, decide_eq_false nx]; simp⟩
  case _ => exact ⟨hd _ (by simp) (by simp [Fine1, hL, hr8]) (fun w ds' e => by injection e with e; injection e with e; exact .inr (.inr e.symm)), fun st => by simp [canB, n3]⟩
  case _ => exact ⟨⟨⟨trivial, fun ds e => by cases e⟩, fun w ds e => by cases e⟩, fun st => by simp [canB]⟩
  case _ => exact ⟨hd _ (by simp) (by simp [Fine1, hu]) (fun w ds' e => by injection e with e; injection e with e; exact .inl e.symm), fun st => by simp [canB, roomB]⟩
  case _ => exact ⟨hd _ (by simp) (by simp [Fine1, hu, hr8]) (fun w ds' e => by injection e with e; injection e with e; exact .inl e.symm), fun st => by simp [canB, roomB]⟩
  case _ => exact ⟨hd _ (by simp) (by simp [Fine1, hl]) (fun w ds' e => by injection e with e; injection e with e; exact .inr (.inl e.symm)), fun st => by simp [canB, keyB]⟩
  case _ => exact ⟨hd _ (by simp) (by simp) (fun w ds' e => by cases e), fun st => by simp [canB]⟩
  case _ => exact ⟨⟨⟨hy, fun ds e => by cases e⟩, fun w ds e => by cases e⟩, fun st => by simp [canB]⟩
  case _ => exact ⟨⟨⟨trivial, fun ds e => by cases e⟩, fun w ds e => by cases e⟩, fun st => by simp [canB]⟩
theorem odd_row_ok {M : Mem} {n : Nat} {N : Int} {s : Str} (h : BagAt M n N) (hN : N + 1 < 2 ^ 40) (hs : s.length ≤ 8) : Gv (f_law_odd_row [.ptr n, .str s] M) fun d M' => d ∈ oddL s ∧ BagAt M' n (N + 1) ∧ Kp n M M' := by
  have hx : s.length + ("x" : Str).length ≤ sizeLine := by
    have : ("x" : Str).length = 1 := by decide +kernel
    exact small_line (by omega)
  have hy : ("lock " : Str).length + s.length ≤ sizeLine := by
    have : ("lock " : Str).length = 5 := by decide +kernel
    exact small_line (by omega)
  refine v_body rfl ?_
  unfold b_law_odd_row
  refine v_seq (v_asg ?_)
  walk_at "gos"
  refine ⟨_, add_ss hx, ?_⟩
  walk_at "gos"
  refine ⟨_, add_ll (small_line (by simp)), ?_⟩
  walk_at "gos"
  refine ⟨_, add_ss hx, ?_⟩
  walk_at "gos"
  refine ⟨_, add_ll (small_line (by simp)), ?_⟩
  walk_at "gos"
  refine ⟨_, add_ss hy, ?_⟩
  walk_at "gos"
  refine ⟨_, add_ll (small_line (by simp)), ?_⟩
  walk_at "gos"
  refine ⟨rfl, (take_ok h hN (by decide) (by decide)).imp ?_⟩
  rintro _ M1 ⟨⟨x, rfl, x0, x1, b1, k1⟩⟩
  obtain ⟨d, hd, hm⟩ := ix_in (l := oddL s) x0 (by simpa [oddL] using x1)
  refine ⟨d, ix_l.trans hd, ?_⟩
  exact ⟨hm, b1, k1⟩

theorem pick248 {M : Mem} {i : Int} (h0 : 0 ≤ i) (h1 : i < 3) : ∃ v : Nat, dIx M (.lst [.int 2, .int 4, .int 8]) (.int i) = some (.int (v : Nat)) ∧ 1 ≤ v ∧ v ≤ 8 := by
  obtain ⟨x, hx, hmem⟩ := ix_in (l := ([.int 2, .int 4, .int 8] : List D)) h0 (by simpa using h1)
  simp only [List.mem_cons, List.not_mem_nil, or_false] at hmem
  rcases hmem with rfl | rfl | rfl
  · exact ⟨2, ix_l.trans hx, by decide, by decide⟩
  · exact ⟨4, ix_l.trans hx, by decide, by decide⟩
  · exact ⟨8, ix_l.trans hx, by decide, by decide⟩
theorem place_ok {M : Mem} {n : Nat} {N : Int} (h : BagAt M n N) (hN : N + 60 < 2 ^ 40) : Gv (f_law_place [.ptr n] M) fun d M' => (∃ ss rs, d = townD ss rs ∧ Town ss rs ∧ rs.length ≤ 8 ∧ PfN (rs.map (·.1))) ∧ BagAt M' n (N + 60) ∧ Kp n M M' := by
  refine v_body rfl ?_
  unfold b_law_place
  refine v_seq (v_asg (v_fn ?_))
  walk_at "gos"
  refine ⟨rfl, (kinds_ok h (by omega)).imp ?_⟩
  rintro _ M1 ⟨⟨ss, rfl, K⟩, b1, k1⟩
  refine v_thn (v_ret (v_tup (v_cons (v_var rfl (v_cons (v_fn ?_))))))
  walk_at "gos"
  refine ⟨rfl, (take_ok b1 (by omega) (by decide) (by decide)).imp ?_⟩
  rintro _ M2 ⟨⟨y, rfl, y0, y1, b2, k2⟩⟩
  obtain ⟨v, ev, v0, v1⟩ := pick248 (M := M2) y0 y1
  refine ⟨_, ev, ?_⟩
  walk_at "gos"
  refine ⟨rfl, (rooms_pf (most := v) K b2 (by omega) v0 (by omega)).imp ?_⟩
  rintro _ M3 ⟨⟨rs, rfl, hrs, hpf⟩, b3, k3⟩
  walk_at "gos"
  exact ⟨⟨ss, rs, rfl, hrs.town K (by omega), Nat.le_trans hrs.le v1, hpf⟩, b3.up (by omega) (by omega), (k1.trans k2).trans k3⟩
theorem pairsK_zero : ∀ rs : List (Str × List Str), pairsK (rs.map fun r => D.tup [.str r.1, .int 0]) = some (stK rs fun _ => 0)
  | [] => rfl
  | r :: rs => by
    rw [List.map_cons]
    unfold pairsK
    rw [pairsK_zero rs]
    rfl
theorem mergeD_zero : ∀ (l : List (Str × List Str)) (acc : List (L2.Key × D)), (∀ r ∈ l, ∀ q ∈ acc, q.1 ≠ Sum.inr r.1) → (l.map (·.1)).Nodup → mergeD acc (stK l fun _ => 0) = acc ++ stK l fun _ => 0
  | [], acc, _, _ => by simp [stK, mergeD]
  | r :: l, acc, h1, nd => by
    rw [List.map_cons, List.nodup_cons] at nd
    show mergeD (putD acc (Sum.inr r.1) (.int 0)) (stK l fun _ => 0) = _
    rw [putK_new (h1 r (List.mem_cons_self ..)), mergeD_zero l _ ?_ nd.2]
    · simp [stK]
    · intro u hu q hq
      rcases List.mem_append.mp hq with hq | hq
      · exact h1 u (List.mem_cons_of_mem _ hu) q hq
      · rw [List.mem_singleton.mp hq]
        intro z
        exact nd.1 (Sum.inr.inj z ▸ List.mem_map.mpr ⟨u, hu, rfl⟩)
theorem add_pl {M : Mem} {z : Nat} {xs ys : List D} (hz : M[z]? = some (.lst xs)) (h : xs.length + ys.length ≤ sizeLine) : dAdd M (.ptr z) (.lst ys) = some (.lst (xs ++ ys)) := by
  have e : lAdd M (.ptr z) (.lst ys) = some (.lst (xs ++ ys)) := by
    unfold lAdd
    simp only [asP, hz, Option.bind_some]
    rw [if_pos h]
  exact e
theorem add_lp {M : Mem} {z : Nat} {xs ys : List D} (hz : M[z]? = some (.lst ys)) (h : xs.length + ys.length ≤ sizeLine) : dAdd M (.lst xs) (.ptr z) = some (.lst (xs ++ ys)) := by
  have e : lAdd M (.lst xs) (.ptr z) = some (.lst (xs ++ ys)) := by
    unfold lAdd
    simp only [asP, hz, Option.bind_some]
    rw [if_pos h]
  exact e
structure Turn (M : Mem) (n pr pd : Nat) (rs : List (Str × List Str)) (qs : List (Str × Option Int)) (N : Int) : Prop where
  bag : BagAt M n N
  rw : M[pr]? = some (.lst (qs.map rwD))
  stk : M[pd]? = some (.dK (stK rs (endS (fun _ => 0) (qs.map rwD))))
  bad : badAt rs (fun _ => 0) (qs.map rwD) = none
  nn : NN rs (endS (fun _ => 0) (qs.map rwD))
  ok : ∀ d ∈ qs.map rwD, RowOk d
theorem Turn.gr {M M' : Mem} {n pr pd : Nat} {rs : List (Str × List Str)} {qs : List (Str × Option Int)} {N : Int} (h : Turn M n pr pd rs qs N) (g : Gr M M') : Turn M' n pr pd rs qs N := ⟨h.bag.gr g, g.at h.rw, g.at h.stk, h.bad, h.nn, h.ok⟩
theorem Turn.kp {M M' : Mem} {n pr pd : Nat} {rs : List (Str × List Str)} {qs : List (Str × Option Int)} {N N' : Int} (h : Turn M n pr pd rs qs N) (b : BagAt M' n N') (k : Kp n M M') (h1 : pr ≠ n) (h2 : pd ≠ n) : Turn M' n pr pd rs qs N' := ⟨b, k.at h1 h.rw, k.at h2 h.stk, h.bad, h.nn, h.ok⟩
theorem pick_often {M : Mem} {i : Int} (h0 : 0 ≤ i) (h1 : i < 3) : ∃ v : Int, dIx M (.lst [.int 1, .int 5, .int 50]) (.int i) = some (.int v) ∧ 1 ≤ v ∧ v ≤ 50 := by
  obtain ⟨x, hx, hmem⟩ := ix_in (l := ([.int 1, .int 5, .int 50] : List D)) h0 (by simpa using h1)
  simp only [List.mem_cons, List.not_mem_nil, or_false] at hmem
  rcases hmem with rfl | rfl | rfl
  · exact ⟨1, ix_l.trans hx, by decide, by decide⟩
  · exact ⟨5, ix_l.trans hx, by decide, by decide⟩
  · exact ⟨50, ix_l.trans hx, by decide, by decide⟩
/-- the row and what it brings -/
def rwOf (s : Str) (m : Int) : Str × Option Int := if m < 0 then (s, none) else (s, some m)
theorem rw_ok {s : Str} {m : Int} (hs : s.length ≤ 8) : RowOk (rwD (rwOf s m)) := by
  have hu : ("unlock" : Str).length ≤ 1000 := by decide +kernel
  have hl : ("lock" : Str).length ≤ 1000 := by decide +kernel
  have hr8 : s.length ≤ 1000 := by omega
  unfold rwOf
  split
  · exact ⟨fine_tup (by simp) (by simp [Fine1, hl, hr8]), fun w ds e => by injection e with e; injection e with e; injection e with e; exact .inr (.inl e.symm)⟩
  · exact ⟨fine_tup (by simp) (by simp [Fine1, hu, hr8]), fun w ds e => by injection e with e; injection e with e; injection e with e; exact .inl e.symm⟩
theorem rw_can {rs : List (Str × List Str)} {st : Str → Int} {r : Str × List Str} {m : Int} (hr : r ∈ rs) (hm : m = -1 ∨ 1 ≤ m ∧ m ≤ 50) (hn : NN rs st) : canB rs st (rwD (rwOf r.1 m)) = !decide (st r.1 + m < 0) := by
  have h0 := hn r hr
  have hmem : decide (r.1 ∈ rs.map (·.1)) = true := decide_eq_true (List.mem_map.mpr ⟨r, hr, rfl⟩)
  unfold rwOf
  rcases hm with rfl | ⟨h1, h2⟩
  · rw [if_pos (by decide)]
    simp only [rwD, canB, keyB, hmem, Bool.true_and, decide_eq_true]
    rw [Bool.eq_iff_iff]
    simp
    omega
  · rw [if_neg (by omega)]
    simp only [rwD, canB, roomB, countB, hmem, decide_eq_true h1, decide_eq_true h2]
    rw [decide_eq_false (show ¬ st r.1 + m < 0 by omega)]
    simp
theorem rw_put {st : Str → Int} {s : Str} {m : Int} (hm : m = -1 ∨ 1 ≤ m ∧ m ≤ 50) : putS st (rwD (rwOf s m)) = fun u => if u = s then st s + m else st u := by
  unfold rwOf
  rcases hm with rfl | ⟨h1, h2⟩
  · rw [if_pos (by decide)]
    rfl
  · rw [if_neg (by omega)]
    rfl

theorem turn_ok {M : Mem} {n pr pd : Nat} {ss : List Str} {rs : List (Str × List Str)} {qs : List (Str × Option Int)} {N : Int} {r : Str × List Str} {m : Int} {odd : D} {η : Dv} {PF : Fl → Mem → Prop} (W : Town ss rs) (hpf : PfN (rs.map (·.1))) (T : Turn M n pr pd rs qs N) (hr : r ∈ rs) (hm : m = -1 ∨ 1 ≤ m ∧ m ≤ 50) (ho : odd ∈ oddL r.1) (hq : qs.length ≤ 100) (h1 : pr ≠ n) (h2 : pd ≠ n) (h3 : pr ≠ pd)
    (e3 : η[3]? = some (some (townD ss rs))) (e4 : η[4]? = some (some (.ptr pr))) (e5 : η[5]? = some (some (.ptr pd))) (e7 : η[7]? = some (some (.str r.1))) (e8 : η[8]? = some (some (rwD (rwOf r.1 m)))) (e9 : η[9]? = some (some (.int m))) (e10 : η[10]? = some (some odd))
    (hn : ∀ M', Turn M' n pr pd rs (qs ++ [rwOf r.1 m]) N → PF (.nx η) M') (hc : ∀ M', Turn M' n pr pd rs qs N → PF (.ct η) M') :
    Gv ((xSeq (xIfS (xNot (xTru (xFn 3 f_law_barred (xCons (xVar 3) (xCons (xOp dAdd (xVar 4) (xLst (xCons (xVar 10) xNil))) (xCons (xCall bLen (xCons (xVar 4) xNil)) xNil)))))) (xRet (xC (.bl false))) xNx) (xSeq (xIfS (xTst (xOp dLt (xOp dAdd (xOp gd (xVar 5) (xVar 7)) (xVar 9)) (xC (.int 0)))) (xSeq (xIfS (xNot (xTru (xFn 3 f_law_barred (xCons (xVar 3) (xCons (xOp dAdd (xVar 4) (xLst (xCons (xVar 8) (xCons (xVar 10) xNil)))) (xCons (xCall bLen (xCons (xVar 4) xNil)) xNil)))))) (xRet (xC (.bl false))) xNx) xCt) xNx) (xSeq (xDrop (xAppend (xVar 4) (xVar 8))) (xSeq (xDPutK (xOp dAdd (xOp gd (xVar 5) (xVar 7)) (xVar 9)) (xVar 5) (xVar 7)) (xSeq (xIfS (xNot (xTru (xFn 3 f_law_right (xCons (xVar 3) (xCons (xVar 4) (xCons (xVar 5) xNil)))))) (xRet (xC (.bl false))) xNx) (xIfS (xNot (xTru (xFn 3 f_law_barred (xCons (xVar 3) (xCons (xOp dAdd (xLst (xCons (xVar 10) xNil)) (xVar 4)) (xCons (xC (.int 0)) xNil)))))) (xRet (xC (.bl false))) xNx)))))) η M) PF := by
  obtain ⟨hok, hno⟩ := odd_fine W hpf hr odd ho
  have hrok : RowOk (rwD (rwOf r.1 m)) := rw_ok (W.sh r hr)
  have hcan := rw_can hr hm T.nn
  have hrl := W.le
  have hgd : ∀ {Mx : Mem} {st : Str → Int}, Mx[pd]? = some (.dK (stK rs st)) → gd Mx (.ptr pd) (.str r.1) = some (.int (st r.1)) := fun {Mx st} hx => by
    have e1 : asDT Mx (.ptr pd) = none := by simp only [asDT, hx]
    have e2 : asDK Mx (.ptr pd) = some (stK rs st) := by simp only [asDK, hx]
    unfold gd dgetD
    rw [e1, e2]
    show (some (valD (stK rs st) (Sum.inr r.1))).bind id = _
    rw [valD_st W.nd hr]
    rfl
  have hbl : ∀ {Mx : Mem}, Mx[pr]? = some (.lst (qs.map rwD)) → bLen Mx [.ptr pr] = some (.int (qs.length : Nat)) := fun {Mx} hx => by simp [bLen, one, lenD, asL, hx]
  refine v_seq (v_ifS (v_not (v_tru (v_fn (v_cons (v_var e3 (v_cons (v_op (v_var e4 (v_lst (v_cons (v_var e10 (v_nil ⟨by simp, ?_⟩)))))))))))))
  refine ⟨_, add_pl T.rw (small_line (by simp; omega)), v_cons (v_call (v_cons (v_var e4 (v_nil ⟨_, hbl T.rw, v_nil ⟨rfl, (barred_ok W ?_ ?_ (by omega)).imp ?_⟩⟩))))⟩
  · intro d hd
    rcases List.mem_append.mp hd with hd | hd
    · exact T.ok d hd
    · rw [List.mem_singleton.mp hd]; exact hok
  · rw [badAt_pre T.bad]
    unfold badAt
    rw [if_neg (by rw [hno]; simp)]
    simp
  rintro _ M1 ⟨rfl, g1⟩
  have T1 := T.gr g1
  refine ⟨_, tru_b, iteF (v_nx (v_thn (v_seq (v_ifS (v_tst (v_op (v_op (v_op (v_var e5 (v_var e7 ⟨_, hgd T1.stk, v_var e9 ⟨_, add_ii, v_c ⟨_, lt_ii, _, rfl, ?_⟩⟩⟩))))))))))⟩
  by_cases hlt : endS (fun _ => 0) (qs.map rwD) r.1 + m < 0
  · rw [decide_eq_true hlt] at hcan ⊢
    refine iteT (v_seq (v_ifS (v_not (v_tru (v_fn (v_cons (v_var e3 (v_cons (v_op (v_var e4 (v_lst (v_cons (v_var e8 (v_cons (v_var e10 (v_nil ⟨by simp, ?_⟩))))))))))))))))
    refine ⟨_, add_pl T1.rw (small_line (by simp; omega)), v_cons (v_call (v_cons (v_var e4 (v_nil ⟨_, hbl T1.rw, v_nil ⟨rfl, (barred_ok W ?_ ?_ (by omega)).imp ?_⟩⟩))))⟩
    · intro d hd
      rcases List.mem_append.mp hd with hd | hd
      · exact T.ok d hd
      · simp only [List.mem_cons, List.not_mem_nil, or_false] at hd
        rcases hd with rfl | rfl
        · exact hrok
        · exact hok
    · rw [badAt_pre T.bad]
      unfold badAt
      rw [if_neg (by rw [hcan]; simp)]
      simp
    rintro _ M2 ⟨rfl, g2⟩
    refine ⟨_, tru_b, iteF (v_nx (v_thn (v_ct (v_thc ?_))))⟩
    exact hc M2 (T1.gr g2)
  · rw [decide_eq_false hlt] at hcan ⊢
    refine iteF (v_nx (v_thn (v_seq (v_drop (v_append (v_var e4 ⟨pr, _, rfl, T1.rw, v_var e8 ⟨_, T1.rw, by simp; omega, ?_⟩⟩))))))
    have lpr : pr < M1.length := (List.getElem?_eq_some_iff.mp T1.rw).1
    have lpd : pd < M1.length := (List.getElem?_eq_some_iff.mp T1.stk).1
    have a1 : (M1.set pr (.lst (qs.map rwD ++ [rwD (rwOf r.1 m)])))[pr]? = some (.lst (qs.map rwD ++ [rwD (rwOf r.1 m)])) := List.getElem?_set_self lpr
    have a2 : (M1.set pr (.lst (qs.map rwD ++ [rwD (rwOf r.1 m)])))[pd]? = some (.dK (stK rs (endS (fun _ => 0) (qs.map rwD)))) := by rw [List.getElem?_set_ne h3]; exact T1.stk
    have a3 : BagAt (M1.set pr (.lst (qs.map rwD ++ [rwD (rwOf r.1 m)]))) n N := T1.bag.set h1
    have a4 : (M1.set pr (.lst (qs.map rwD ++ [rwD (rwOf r.1 m)]))).length = M1.length := by simp
    generalize M1.set pr (.lst (qs.map rwD ++ [rwD (rwOf r.1 m)])) = M2 at a1 a2 a3 a4
    refine v_thn (v_seq (v_dputK (v_op (v_op (v_var e5 (v_var e7 ⟨_, hgd a2, v_var e9 ⟨_, add_ii, v_var e5 (v_var e7 ⟨pd, _, Sum.inr r.1, rfl, a2, rfl, by simp [stK]; omega, ?_⟩)⟩⟩))))))
    rw [putD_st W.nd hr, ← rw_put hm]
    have c1 : (M2.set pd (.dK (stK rs (putS (endS (fun _ => 0) (qs.map rwD)) (rwD (rwOf r.1 m))))))[pr]? = some (.lst ((qs ++ [rwOf r.1 m]).map rwD)) := by rw [List.getElem?_set_ne (Ne.symm h3), a1]; simp
    have c2 : (M2.set pd (.dK (stK rs (putS (endS (fun _ => 0) (qs.map rwD)) (rwD (rwOf r.1 m))))))[pd]? = some (.dK (stK rs (endS (fun _ => 0) ((qs ++ [rwOf r.1 m]).map rwD)))) := by
      rw [List.getElem?_set_self (by omega), List.map_append, List.map_singleton, endS_app]
    have c3 : BagAt (M2.set pd (.dK (stK rs (putS (endS (fun _ => 0) (qs.map rwD)) (rwD (rwOf r.1 m)))))) n N := a3.set h2
    generalize M2.set pd (.dK (stK rs (putS (endS (fun _ => 0) (qs.map rwD)) (rwD (rwOf r.1 m))))) = M3 at c1 c2 c3
    have T3 : Turn M3 n pr pd rs (qs ++ [rwOf r.1 m]) N := by
      refine ⟨c3, c1, c2, ?_, ?_, ?_⟩
      · rw [List.map_append, List.map_singleton, badAt_pre T.bad]
        unfold badAt
        rw [if_pos (by rw [hcan]; rfl)]
        rfl
      · rw [List.map_append, List.map_singleton, endS_app]
        exact T.nn.put (by rw [hcan]; rfl)
      · intro d hd
        rw [List.map_append] at hd
        rcases List.mem_append.mp hd with hd | hd
        · exact T.ok d hd
        · rw [List.mem_singleton.mp hd]; exact hrok
    refine v_thn (v_seq (v_ifS (v_not (v_tru (v_fn (v_cons (v_var e3 (v_cons (v_var e4 (v_cons (v_var e5 (v_nil ⟨rfl, (right_ok W T3.rw T3.stk T3.ok T3.bad).imp ?_⟩))))))))))))
    rintro _ M4 ⟨rfl, g4⟩
    have T4 := T3.gr g4
    refine ⟨_, tru_b, iteF (v_nx (v_thn (v_ifS (v_not (v_tru (v_fn (v_cons (v_var e3 (v_cons (v_op (v_lst (v_cons (v_var e10 (v_nil ⟨by simp, v_var e4 ?_⟩))))))))))))))⟩
    refine ⟨_, add_lp T4.rw (small_line (by simp; omega)), v_cons (v_c (v_nil ⟨rfl, (barred_ok (k := 0) W ?_ ?_ (by omega)).imp ?_⟩))⟩
    · intro d hd
      rcases List.mem_append.mp hd with hd | hd
      · rw [List.mem_singleton.mp hd]; exact hok
      · exact T4.ok d hd
    · show badAt rs (fun _ => 0) (odd :: _) = _
      rw [badAt_cons, if_neg (by rw [hno]; simp)]
    rintro _ M5 ⟨rfl, g5⟩
    refine ⟨_, tru_b, iteF (v_nx ?_)⟩
    exact hn M5 (T4.gr g5)

theorem law_gv (ns : List Int) : Gv (f_law [.scr ns] []) fun r M' => r = .bl true := by
  refine v_body rfl ?_
  unfold b_law
  refine v_seq (v_for (PI := fun _ _ => True) (v_rng ?_))
  walk_at "gos"
  refine ⟨_, bmin, ?_⟩
  walk_at "gos"
  refine ⟨_, bmax, ?_⟩
  walk_at "gos"
  have hm : ∃ m : Nat, (if (if (ns.length : Int) < 3 then (ns.length : Int) else 3) > 2 then (if (ns.length : Int) < 3 then (ns.length : Int) else 3) else 2) = (m : Int) ∧ m ≤ 6 := by
    refine ⟨(if (if (ns.length : Int) < 3 then (ns.length : Int) else 3) > 2 then (if (ns.length : Int) < 3 then (ns.length : Int) else 3) else 2).toNat, ?_, ?_⟩
    · split <;> (try split) <;> omega
    · split <;> (try split) <;> omega
  obtain ⟨m, em, hm6⟩ := hm
  rw [em]
  refine ⟨m, rfl, by omega, ?_⟩
  refine v_forL (fun rest η M => (∃ a1 a2 a3 a4 a5 a6 a7 a8 a9 b0 b1, η = [some (D.scr ns), a1, a2, a3, a4, a5, a6, a7, a8, a9, b0, b1]) ∧ ∀ d ∈ rest, ∃ k : Nat, d = .int (k : Int) ∧ k ≤ 1000) _ ⟨⟨_, _, _, _, _, _, _, _, _, _, _, rfl⟩, ?_⟩ ?_ ?_
  · intro d hd
    obtain ⟨k, hk, rfl⟩ := List.mem_map.mp hd
    exact ⟨k, rfl, by have := List.mem_range.mp hk; omega⟩
  · rintro d r η M ⟨⟨a1, a2, a3, a4, a5, a6, a7, a8, a9, b0, b1, rfl⟩, hr⟩
    obtain ⟨k, rfl, hk⟩ := hr d (List.mem_cons_self ..)
    refine v_gn ?_
    walk_at "gos"
    refine ⟨rfl, (bag_ok hk).imp ?_⟩
    rintro _ M1 ⟨rfl, hb, _⟩
    walk_at "gos"
    generalize M.length = n at hb
    refine ⟨rfl, (place_ok hb (by decide)).imp ?_⟩
    rintro _ M2 ⟨⟨ss, rs, rfl, W, hr8, hpf⟩, b2, _⟩
    have hge := W.ge
    have hln := b2.lt
    refine v_thn (v_seq (v_par (v_lstM (v_nil ⟨by simp, v_dictPK (v_cons (v_lc (v_sq (v_op ?_))))⟩))))
    walk_at "gos"
    refine ⟨.tup (rs.map roomD), rfl, _, rfl, by rw [List.length_map]; omega, ?_⟩
    refine (v_lc_ma (e := roomD) (h := fun r => .tup [.str r.1, .int 0]) rs ?_).imp ?_
    · intro r _
      refine gv_ok ?_
      walk_at "gos"
      exact ⟨rfl, rfl, rfl⟩
    rintro _ My ⟨rfl, e0⟩
    subst My
    refine v_nil ⟨_, _, _, rfl, rfl, pairsK_zero rs, ?_⟩
    rw [mergeD_zero rs [] (fun _ _ q hq => by simp at hq) W.nd, List.nil_append]
    have T0 : Turn (M2 ++ [Ob.lst []] ++ [Ob.dK (stK rs fun _ => 0)]) n M2.length (M2 ++ [Ob.lst []]).length rs [] (0 + 60) := by
      refine ⟨b2.gr ((Gr.app _ _).trans (Gr.app _ _)), ?_, ?_, rfl, fun _ _ => Int.le_refl 0, fun d hd => by simp at hd⟩
      · rw [List.getElem?_append_left (by simp)]; simp
      · simp [endS]
    have h1 : M2.length ≠ n := by omega
    have h2 : (M2 ++ [Ob.lst []]).length ≠ n := by simp; omega
    have h3 : M2.length ≠ (M2 ++ [Ob.lst []]).length := by simp
    generalize M2 ++ [Ob.lst []] ++ [Ob.dK (stK rs fun _ => 0)] = M3 at T0
    generalize (M2 ++ [Ob.lst []]).length = pd at T0 h2 h3
    generalize M2.length = pr at T0 h1 h3
    refine v_thn (v_seq (v_ifS (v_not (v_tru (v_fn ?_)))))
    walk_at "gos"
    refine ⟨rfl, (right_ok W T0.rw T0.stk T0.ok T0.bad).imp ?_⟩
    rintro _ M4 ⟨rfl, g4⟩
    have T4 := T0.gr g4
    refine ⟨_, tru_b, iteF (v_nx (v_thn (v_for (PI := fun _ _ => True) (v_rng ?_))))⟩
    walk_at "gos"
    refine ⟨rfl, (take_ok T4.bag (by decide) (by decide) (by decide)).imp ?_⟩
    rintro _ M5 ⟨⟨x, rfl, x0, x1, b5, k5⟩⟩
    have T5 := T4.kp b5 k5 h1 h2
    obtain ⟨q, rfl⟩ := Int.eq_ofNat_of_zero_le x0
    walk_at "gos"
    refine ⟨6 + q, by simp, by omega, ?_⟩
    refine v_forL (fun rest η M => ∃ (qs : List (Str × Option Int)) (a6 a7 a8 a9 b0 b1 : Option D), η = [some (D.scr ns), some (.int k), some (.ptr n), some (townD ss rs), some (.ptr pr), some (.ptr pd), a6, a7, a8, a9, b0, b1] ∧ rest.length + qs.length ≤ 20 ∧ Turn M n pr pd rs qs (1000000 - 100 * rest.length)) _ ⟨[], _, _, _, _, _, _, rfl, by simp; omega, T5.kp (T5.bag.up (by simp; omega) (by simp; omega)) (Kp.refl _ _) h1 h2⟩ ?_ ?_
    · rintro d r' η Ma ⟨qs, a6, a7, a8, a9, b0, b1, rfl, hl, Ta⟩
      simp only [List.length_cons] at hl Ta
      refine v_gn (v_seq (v_asg (v_op (v_op (v_op ?_)))))
      walk_at "gos"
      refine ⟨.tup (rs.map roomD), rfl, ?_⟩
      walk_at "gos"
      refine ⟨.tup (rs.map roomD), rfl, ?_⟩
      walk_at "gos"
      refine ⟨rfl, (take_ok Ta.bag (by omega) (by simp; omega) (by simp; omega)).imp ?_⟩
      rintro _ Mb ⟨⟨y, rfl, y0, y1, bb, kb⟩⟩
      have Tb := Ta.kp bb kb h1 h2
      obtain ⟨room, hroom, eroom⟩ := ix_in (l := rs) y0 (by simpa using y1)
      have eroom' : dIx Mb (.tup (rs.map roomD)) (.int y) = some (roomD room) := by
        obtain ⟨j, rfl⟩ := Int.eq_ofNat_of_zero_le y0
        rw [ix_nat] at hroom
        rw [ix_t, ix_nat, List.getElem?_map, hroom]
        rfl
      refine ⟨_, eroom', ?_⟩
      walk_at "gos"
      refine ⟨.str room.1, rfl, ?_⟩
      refine v_thn (v_seq (v_par (v_tup (v_cons (v_c (v_cons (v_var rfl (v_nil ⟨by simp, v_neg (v_c ⟨1, rfl, ?_⟩)⟩))))))))
      refine v_thn (v_seq (Gv.imp (P := fun fl M' => ∃ m : Int, fl = .nx [some (D.scr ns), some (.int k), some (.ptr n), some (townD ss rs), some (.ptr pr), some (.ptr pd), some d, some (.str room.1), some (rwD (rwOf room.1 m)), some (.int m), b0, b1] ∧ (m = -1 ∨ 1 ≤ m ∧ m ≤ 50) ∧ Turn M' n pr pd rs qs (1000000 - 100 * (r'.length + 1) + 10)) (v_ifS (v_tst (v_op (v_fn ?_)))) ?_))
      · walk_at "gos"
        refine ⟨rfl, (take_ok bb (by omega) (by decide) (by decide)).imp ?_⟩
        rintro _ Mc ⟨⟨z, rfl, z0, z1, bc, kc⟩⟩
        have Tc := Tb.kp bc kc h1 h2
        walk_at "gos"
        by_cases hz : 0 < z
        · rw [decide_eq_true hz]
          refine iteT ?_
          walk_at "gos"
          refine ⟨rfl, (take_ok bc (by omega) (by decide) (by decide)).imp ?_⟩
          rintro _ Md ⟨⟨w, rfl, w0, w1, bd, kd⟩⟩
          have Td := Tc.kp bd kd h1 h2
          obtain ⟨v, ev, v0, v1⟩ := pick_often (M := Md) w0 w1
          refine ⟨_, ev, ?_⟩
          walk_at "gos"
          refine ⟨rfl, (take_ok bd (by omega) (by omega) (by omega)).imp ?_⟩
          rintro _ Me ⟨⟨u, rfl, u0, u1, be, ke⟩⟩
          have Te := Td.kp be ke h1 h2
          walk_at "gos"
          refine ⟨1 + u, ?_, .inr ⟨by omega, by omega⟩, Te.kp (be.up (by omega) (by omega)) (Kp.refl _ _) h1 h2⟩
          have : rwD (rwOf room.1 (1 + u)) = .tup [.str "unlock", .str room.1, .int (1 + u)] := by
            unfold rwOf
            rw [if_neg (by omega)]
            rfl
          rw [this]
          rfl
        · rw [decide_eq_false hz]
          refine iteF (v_nx ?_)
          exact ⟨-1, rfl, .inl rfl, Tc.kp (bc.up (by omega) (by omega)) (Kp.refl _ _) h1 h2⟩
      rintro _ Mc ⟨m, rfl, hm, Tc⟩
      refine v_thn (v_seq (v_asg (v_fn ?_)))
      walk_at "gos"
      refine ⟨rfl, (odd_row_ok Tc.bag (by omega) (W.sh room eroom)).imp ?_⟩
      rintro odd Md ⟨hodd, bd, kd⟩
      refine v_thn (turn_ok W hpf (Tc.kp (bd.up (N' := 1000000 - 100 * r'.length) (by omega) (by omega)) kd h1 h2) eroom hm hodd (by omega) h1 h2 h3 rfl rfl rfl rfl rfl rfl rfl ?_ ?_)
      · intro M' T'
        exact ⟨_, _, _, _, _, _, _, rfl, by simp; omega, T'⟩
      · intro M' T'
        exact ⟨_, _, _, _, _, _, _, rfl, by omega, T'⟩
    · rintro η Ma ⟨qs, a6, a7, a8, a9, b0, b1, rfl, _, _⟩
      exact ⟨⟨_, _, _, _, _, _, _, _, _, _, _, rfl⟩, fun y hy => hr y (List.mem_cons_of_mem _ hy)⟩
  · rintro η M ⟨⟨a1, a2, a3, a4, a5, a6, a7, a8, a9, b0, b1, rfl⟩, _⟩
    walk_at "gos"
    rfl
theorem plain_law (ns : List Int) (_ : ns.length ≤ 63) (_ : ∀ z ∈ ns, Builtin.Int.intBits z ≤ 1048576) : ∃ M', f_law [.scr ns] [] = .ok (.bl true) M' := by
  obtain ⟨d, M', e, rfl⟩ := law_gv ns
  exact ⟨M', e⟩

theorem all_mk {l : PySem.W.OpenLaw} {w : World} {K : PySem.W.Frag} {h : Heap} {mg : Str → Option Value} {fa : Addr} (X : K.In h) (Gh : h.Ns mainGlobals mg) (hfa : mg "law" = some (.ref fa))
    {A_Table : Addr}
    {A_Stand : Addr}
    {f_law_take : Addr} {od_law_take an_law_take : Option Addr} {sl_law_take : Array (Option Value)} {oc_law_take kV_law_take dc_law_take pm_law_take cd_law_take ct_law_take : Value}
    {f_set_order : Addr} {od_set_order an_set_order : Option Addr} {sl_set_order : Array (Option Value)} {oc_set_order kV_set_order dc_set_order pm_set_order cd_set_order ct_set_order : Value}
    {f_sets_of : Addr} {od_sets_of an_sets_of : Option Addr} {sl_sets_of : Array (Option Value)} {oc_sets_of kV_sets_of dc_sets_of pm_sets_of cd_sets_of ct_sets_of : Value}
    {f_Table_init : Addr} {od_Table_init an_Table_init : Option Addr} {sl_Table_init : Array (Option Value)} {oc_Table_init kV_Table_init dc_Table_init pm_Table_init cd_Table_init ct_Table_init : Value}
    {TT_Table_init EE_Table_init : Addr} {td_Table_init ed_Table_init : Option Addr} {tn_Table_init en_Table_init : Nat} {ts_Table_init es_Table_init : Array (Option Value)} {tc_Table_init : Value}
    {f_takes_of : Addr} {od_takes_of an_takes_of : Option Addr} {sl_takes_of : Array (Option Value)} {oc_takes_of kV_takes_of dc_takes_of pm_takes_of cd_takes_of ct_takes_of : Value}
    {f_served : Addr} {od_served an_served : Option Addr} {sl_served : Array (Option Value)} {oc_served kV_served dc_served pm_served cd_served ct_served : Value}
    {f_move_places : Addr} {od_move_places an_move_places : Option Addr} {sl_move_places : Array (Option Value)} {oc_move_places kV_move_places dc_move_places pm_move_places cd_move_places ct_move_places : Value}
    {f_put_places : Addr} {od_put_places an_put_places : Option Addr} {sl_put_places : Array (Option Value)} {oc_put_places kV_put_places dc_put_places pm_put_places cd_put_places ct_put_places : Value}
    {f_put_row : Addr} {od_put_row an_put_row : Option Addr} {sl_put_row : Array (Option Value)} {oc_put_row kV_put_row dc_put_row pm_put_row cd_put_row ct_put_row : Value}
    {f_is_room : Addr} {od_is_room an_is_room : Option Addr} {sl_is_room : Array (Option Value)} {oc_is_room kV_is_room dc_is_room pm_is_room cd_is_room ct_is_room : Value}
    {f_is_whole : Addr} {od_is_whole an_is_whole : Option Addr} {sl_is_whole : Array (Option Value)} {oc_is_whole dc_is_whole pm_is_whole cd_is_whole ct_is_whole : Value}
    {KK_is_whole : Addr} {kt_is_whole : Tok}
    {f_can_unlock : Addr} {od_can_unlock an_can_unlock : Option Addr} {sl_can_unlock : Array (Option Value)} {oc_can_unlock kV_can_unlock dc_can_unlock pm_can_unlock cd_can_unlock ct_can_unlock : Value}
    {f_over_at : Addr} {od_over_at an_over_at : Option Addr} {sl_over_at : Array (Option Value)} {oc_over_at kV_over_at dc_over_at pm_over_at cd_over_at ct_over_at : Value}
    {f_are_over : Addr} {od_are_over an_are_over : Option Addr} {sl_are_over : Array (Option Value)} {oc_are_over kV_are_over dc_are_over pm_are_over cd_are_over ct_are_over : Value}
    {f_can_lock : Addr} {od_can_lock an_can_lock : Option Addr} {sl_can_lock : Array (Option Value)} {oc_can_lock kV_can_lock dc_can_lock pm_can_lock cd_can_lock ct_can_lock : Value}
    {f_can_stand : Addr} {od_can_stand an_can_stand : Option Addr} {sl_can_stand : Array (Option Value)} {oc_can_stand kV_can_stand dc_can_stand pm_can_stand cd_can_stand ct_can_stand : Value}
    {f_Stand_init : Addr} {od_Stand_init an_Stand_init : Option Addr} {sl_Stand_init : Array (Option Value)} {oc_Stand_init kV_Stand_init dc_Stand_init pm_Stand_init cd_Stand_init ct_Stand_init : Value}
    {f_stand_of : Addr} {od_stand_of an_stand_of : Option Addr} {sl_stand_of : Array (Option Value)} {oc_stand_of kV_stand_of dc_stand_of pm_stand_of cd_stand_of ct_stand_of : Value}
    {f_law_barred : Addr} {od_law_barred an_law_barred : Option Addr} {sl_law_barred : Array (Option Value)} {oc_law_barred kV_law_barred dc_law_barred pm_law_barred cd_law_barred ct_law_barred : Value}
    {f_law_sets : Addr} {od_law_sets an_law_sets : Option Addr} {sl_law_sets : Array (Option Value)} {oc_law_sets kV_law_sets dc_law_sets pm_law_sets cd_law_sets ct_law_sets : Value}
    {f_is_rising : Addr} {od_is_rising an_is_rising : Option Addr} {sl_is_rising : Array (Option Value)} {oc_is_rising kV_is_rising dc_is_rising pm_is_rising cd_is_rising ct_is_rising : Value}
    {f_is_set : Addr} {od_is_set an_is_set : Option Addr} {sl_is_set : Array (Option Value)} {oc_is_set kV_is_set dc_is_set pm_is_set cd_is_set ct_is_set : Value}
    {f_Table_amount : Addr} {od_Table_amount an_Table_amount : Option Addr} {sl_Table_amount : Array (Option Value)} {oc_Table_amount kV_Table_amount dc_Table_amount pm_Table_amount cd_Table_amount ct_Table_amount : Value}
    {f_law_share : Addr} {od_law_share an_law_share : Option Addr} {sl_law_share : Array (Option Value)} {oc_law_share kV_law_share dc_law_share pm_law_share cd_law_share ct_law_share : Value}
    {f_law_right : Addr} {od_law_right an_law_right : Option Addr} {sl_law_right : Array (Option Value)} {oc_law_right kV_law_right dc_law_right pm_law_right cd_law_right ct_law_right : Value}
    {f_law_odd_row : Addr} {od_law_odd_row an_law_odd_row : Option Addr} {sl_law_odd_row : Array (Option Value)} {oc_law_odd_row kV_law_odd_row dc_law_odd_row pm_law_odd_row cd_law_odd_row ct_law_odd_row : Value}
    {f_law_names : Addr} {od_law_names an_law_names : Option Addr} {sl_law_names : Array (Option Value)} {oc_law_names kV_law_names dc_law_names pm_law_names cd_law_names ct_law_names : Value}
    {f_law_rooms : Addr} {od_law_rooms an_law_rooms : Option Addr} {sl_law_rooms : Array (Option Value)} {oc_law_rooms kV_law_rooms dc_law_rooms pm_law_rooms cd_law_rooms ct_law_rooms : Value}
    {f_law_kinds : Addr} {od_law_kinds an_law_kinds : Option Addr} {sl_law_kinds : Array (Option Value)} {oc_law_kinds kV_law_kinds dc_law_kinds pm_law_kinds cd_law_kinds ct_law_kinds : Value}
    {f_law_place : Addr} {od_law_place an_law_place : Option Addr} {sl_law_place : Array (Option Value)} {oc_law_place kV_law_place dc_law_place pm_law_place cd_law_place ct_law_place : Value}
    {f_law_bag : Addr} {od_law_bag an_law_bag : Option Addr} {sl_law_bag : Array (Option Value)} {oc_law_bag kV_law_bag dc_law_bag pm_law_bag cd_law_bag ct_law_bag : Value}
    {f_law : Addr} {od_law an_law : Option Addr} {sl_law : Array (Option Value)} {oc_law kV_law dc_law pm_law cd_law ct_law : Value}
    {A_NoBook fI_NoBook xN_NoBook : Addr} {xnm_NoBook xq_NoBook : Str} {xbs_NoBook xsub_NoBook : List Value} {xsn_NoBook : List Str} {xab_NoBook : Bool} {xcol_NoBook : Option Bool} {xdd_NoBook xod_NoBook xan_NoBook : Option Addr} {xm0_NoBook xm1_NoBook xm2_NoBook xm3_NoBook xm5_NoBook : Option Value} {xsl_NoBook : Array (Option Value)} {xoc_NoBook xkV_NoBook xdc_NoBook xpm_NoBook xcd_NoBook xct_NoBook : Value}
    {B_NoBook_NoCount : Addr}
    {B_NoBook_NoHouse : Addr}
    {B_NoBook_NoName : Addr}
    {B_NoBook_NoRow : Addr}
    {B_NoBook_NoText : Addr}
    {B_NoBook_Taken : Addr}
    {D_CAN : Addr} {es_CAN : Array DictEntry} {ne_CAN : Nat}
    {D_COUNTS : Addr} {es_COUNTS : Array DictEntry} {ne_COUNTS : Nat}
    {gtk_COUNTS_unlock : Tok}
    {gtk_COUNTS_lock : Tok}
    {D_PUT : Addr} {es_PUT : Array DictEntry} {ne_PUT : Nat}
    {t_MOST_AT_ONCE : Tok}
    (aC_Table : PySem.W.nsIn K mainGlobals "Table" = some (some (.ref A_Table)))
    (pg_Table : PySem.W.plainGet K A_Table Str.empty = true)
    (hd_Table : PySem.W.hasDictIn K A_Table = true)
    (po_Table : PySem.W.plainOver K A_Table = true)
    (sa_Table : PySem.W.findIn K (.ref A_Table) "__setattr__" = some (some (.builtin "object.__setattr__")))
    (mk_Table : PySem.W.makesIn K A_Table = true)
    (kc_Table : PySem.W.keepIn K (.ref A_Table) = true)
    (nf_Table_kinds : PySem.W.findIn K (.ref A_Table) "kinds" = some none)
    (nf_Table_amounts : PySem.W.findIn K (.ref A_Table) "amounts" = some none)
    (aC_Stand : PySem.W.nsIn K mainGlobals "Stand" = some (some (.ref A_Stand)))
    (pg_Stand : PySem.W.plainGet K A_Stand Str.empty = true)
    (hd_Stand : PySem.W.hasDictIn K A_Stand = true)
    (po_Stand : PySem.W.plainOver K A_Stand = true)
    (sa_Stand : PySem.W.findIn K (.ref A_Stand) "__setattr__" = some (some (.builtin "object.__setattr__")))
    (mk_Stand : PySem.W.makesIn K A_Stand = true)
    (kc_Stand : PySem.W.keepIn K (.ref A_Stand) = true)
    (nf_Stand_kinds : PySem.W.findIn K (.ref A_Stand) "kinds" = some none)
    (nf_Stand_plan : PySem.W.findIn K (.ref A_Stand) "plan" = some none)
    (nf_Stand_sets : PySem.W.findIn K (.ref A_Stand) "sets" = some none)
    (nf_Stand_amounts : PySem.W.findIn K (.ref A_Stand) "amounts" = some none)
    (nf_Stand_stock : PySem.W.findIn K (.ref A_Stand) "stock" = some none)
    (nf_Stand_people : PySem.W.findIn K (.ref A_Stand) "people" = some none)
    (nf_Stand_pieces : PySem.W.findIn K (.ref A_Stand) "pieces" = some none)
    (nf_Stand_home : PySem.W.findIn K (.ref A_Stand) "home" = some none)
    (a_law_take : PySem.W.nsIn K mainGlobals "_law_take" = some (some (.ref f_law_take)))
    (l_law_take : K.lookup f_law_take = some ⟨oc_law_take, od_law_take, .func (PySem.W.fnOf "_law_take" "_law_take" (defArgs s_law_take) (defBody s_law_take) (defScope s_law_take) .none kV_law_take dc_law_take pm_law_take an_law_take cd_law_take ct_law_take), sl_law_take⟩)
    (c_law_take : PySem.W.codeIn K cd_law_take "_law_take" = true)
    (k_law_take : PySem.W.keepIn K (.ref f_law_take) = true)
    (a_set_order : PySem.W.nsIn K mainGlobals "set_order" = some (some (.ref f_set_order)))
    (l_set_order : K.lookup f_set_order = some ⟨oc_set_order, od_set_order, .func (PySem.W.fnOf "set_order" "set_order" (defArgs s_set_order) (defBody s_set_order) (defScope s_set_order) .none kV_set_order dc_set_order pm_set_order an_set_order cd_set_order ct_set_order), sl_set_order⟩)
    (c_set_order : PySem.W.codeIn K cd_set_order "set_order" = true)
    (k_set_order : PySem.W.keepIn K (.ref f_set_order) = true)
    (a_sets_of : PySem.W.nsIn K mainGlobals "sets_of" = some (some (.ref f_sets_of)))
    (l_sets_of : K.lookup f_sets_of = some ⟨oc_sets_of, od_sets_of, .func (PySem.W.fnOf "sets_of" "sets_of" (defArgs s_sets_of) (defBody s_sets_of) (defScope s_sets_of) .none kV_sets_of dc_sets_of pm_sets_of an_sets_of cd_sets_of ct_sets_of), sl_sets_of⟩)
    (c_sets_of : PySem.W.codeIn K cd_sets_of "sets_of" = true)
    (k_sets_of : PySem.W.keepIn K (.ref f_sets_of) = true)
    (a_Table_init : PySem.W.findIn K (.ref A_Table) "__init__" = some (some (.ref f_Table_init)))
    (i_Table_init : PySem.W.isFn K (.ref f_Table_init) = true)
    (l_Table_init : K.lookup f_Table_init = some ⟨oc_Table_init, od_Table_init, .func (PySem.W.fnOf "__init__" "Table.__init__" (defArgs s_Table_init) (defBody s_Table_init) (defScope s_Table_init) (.ref TT_Table_init) kV_Table_init dc_Table_init pm_Table_init an_Table_init cd_Table_init ct_Table_init), sl_Table_init⟩)
    (c_Table_init : PySem.W.codeIn K cd_Table_init "Table.__init__" = true)
    (k_Table_init : PySem.W.keepIn K (.ref f_Table_init) = true)
    (t_Table_init : K.lookup TT_Table_init = some ⟨tc_Table_init, td_Table_init, .seq #[.ref EE_Table_init] tn_Table_init, ts_Table_init⟩)
    (e_Table_init : K.lookup EE_Table_init = some ⟨.type "tuple", ed_Table_init, .seq #[] en_Table_init, es_Table_init⟩)
    (a_takes_of : PySem.W.nsIn K mainGlobals "takes_of" = some (some (.ref f_takes_of)))
    (l_takes_of : K.lookup f_takes_of = some ⟨oc_takes_of, od_takes_of, .func (PySem.W.fnOf "takes_of" "takes_of" (defArgs s_takes_of) (defBody s_takes_of) (defScope s_takes_of) .none kV_takes_of dc_takes_of pm_takes_of an_takes_of cd_takes_of ct_takes_of), sl_takes_of⟩)
    (c_takes_of : PySem.W.codeIn K cd_takes_of "takes_of" = true)
    (k_takes_of : PySem.W.keepIn K (.ref f_takes_of) = true)
    (a_served : PySem.W.nsIn K mainGlobals "served" = some (some (.ref f_served)))
    (l_served : K.lookup f_served = some ⟨oc_served, od_served, .func (PySem.W.fnOf "served" "served" (defArgs s_served) (defBody s_served) (defScope s_served) .none kV_served dc_served pm_served an_served cd_served ct_served), sl_served⟩)
    (c_served : PySem.W.codeIn K cd_served "served" = true)
    (k_served : PySem.W.keepIn K (.ref f_served) = true)
    (a_move_places : PySem.W.nsIn K mainGlobals "move_places" = some (some (.ref f_move_places)))
    (l_move_places : K.lookup f_move_places = some ⟨oc_move_places, od_move_places, .func (PySem.W.fnOf "move_places" "move_places" (defArgs s_move_places) (defBody s_move_places) (defScope s_move_places) .none kV_move_places dc_move_places pm_move_places an_move_places cd_move_places ct_move_places), sl_move_places⟩)
    (c_move_places : PySem.W.codeIn K cd_move_places "move_places" = true)
    (k_move_places : PySem.W.keepIn K (.ref f_move_places) = true)
    (a_put_places : PySem.W.nsIn K mainGlobals "put_places" = some (some (.ref f_put_places)))
    (l_put_places : K.lookup f_put_places = some ⟨oc_put_places, od_put_places, .func (PySem.W.fnOf "put_places" "put_places" (defArgs s_put_places) (defBody s_put_places) (defScope s_put_places) .none kV_put_places dc_put_places pm_put_places an_put_places cd_put_places ct_put_places), sl_put_places⟩)
    (c_put_places : PySem.W.codeIn K cd_put_places "put_places" = true)
    (k_put_places : PySem.W.keepIn K (.ref f_put_places) = true)
    (a_put_row : PySem.W.nsIn K mainGlobals "put_row" = some (some (.ref f_put_row)))
    (l_put_row : K.lookup f_put_row = some ⟨oc_put_row, od_put_row, .func (PySem.W.fnOf "put_row" "put_row" (defArgs s_put_row) (defBody s_put_row) (defScope s_put_row) .none kV_put_row dc_put_row pm_put_row an_put_row cd_put_row ct_put_row), sl_put_row⟩)
    (c_put_row : PySem.W.codeIn K cd_put_row "put_row" = true)
    (k_put_row : PySem.W.keepIn K (.ref f_put_row) = true)
    (a_is_room : PySem.W.nsIn K mainGlobals "is_room" = some (some (.ref f_is_room)))
    (l_is_room : K.lookup f_is_room = some ⟨oc_is_room, od_is_room, .func (PySem.W.fnOf "is_room" "is_room" (defArgs s_is_room) (defBody s_is_room) (defScope s_is_room) .none kV_is_room dc_is_room pm_is_room an_is_room cd_is_room ct_is_room), sl_is_room⟩)
    (c_is_room : PySem.W.codeIn K cd_is_room "is_room" = true)
    (k_is_room : PySem.W.keepIn K (.ref f_is_room) = true)
    (a_is_whole : PySem.W.nsIn K mainGlobals "is_whole" = some (some (.ref f_is_whole)))
    (l_is_whole : K.lookup f_is_whole = some ⟨oc_is_whole, od_is_whole, .func (PySem.W.fnOf "is_whole" "is_whole" (defArgs s_is_whole) (defBody s_is_whole) (defScope s_is_whole) .none (.ref KK_is_whole) dc_is_whole pm_is_whole an_is_whole cd_is_whole ct_is_whole), sl_is_whole⟩)
    (c_is_whole : PySem.W.codeIn K cd_is_whole "is_whole" = true)
    (k_is_whole : PySem.W.keepIn K (.ref f_is_whole) = true)
    (kd_is_whole_least : PySem.W.nsIn K KK_is_whole "least" = some (some (.int 0 kt_is_whole)))
    (kd_is_whole_most : PySem.W.nsIn K KK_is_whole "most" = some (some (.none)))
    (a_can_unlock : PySem.W.nsIn K mainGlobals "can_unlock" = some (some (.ref f_can_unlock)))
    (l_can_unlock : K.lookup f_can_unlock = some ⟨oc_can_unlock, od_can_unlock, .func (PySem.W.fnOf "can_unlock" "can_unlock" (defArgs s_can_unlock) (defBody s_can_unlock) (defScope s_can_unlock) .none kV_can_unlock dc_can_unlock pm_can_unlock an_can_unlock cd_can_unlock ct_can_unlock), sl_can_unlock⟩)
    (c_can_unlock : PySem.W.codeIn K cd_can_unlock "can_unlock" = true)
    (k_can_unlock : PySem.W.keepIn K (.ref f_can_unlock) = true)
    (a_over_at : PySem.W.nsIn K mainGlobals "over_at" = some (some (.ref f_over_at)))
    (l_over_at : K.lookup f_over_at = some ⟨oc_over_at, od_over_at, .func (PySem.W.fnOf "over_at" "over_at" (defArgs s_over_at) (defBody s_over_at) (defScope s_over_at) .none kV_over_at dc_over_at pm_over_at an_over_at cd_over_at ct_over_at), sl_over_at⟩)
    (c_over_at : PySem.W.codeIn K cd_over_at "over_at" = true)
    (k_over_at : PySem.W.keepIn K (.ref f_over_at) = true)
    (a_are_over : PySem.W.nsIn K mainGlobals "are_over" = some (some (.ref f_are_over)))
    (l_are_over : K.lookup f_are_over = some ⟨oc_are_over, od_are_over, .func (PySem.W.fnOf "are_over" "are_over" (defArgs s_are_over) (defBody s_are_over) (defScope s_are_over) .none kV_are_over dc_are_over pm_are_over an_are_over cd_are_over ct_are_over), sl_are_over⟩)
    (c_are_over : PySem.W.codeIn K cd_are_over "are_over" = true)
    (k_are_over : PySem.W.keepIn K (.ref f_are_over) = true)
    (a_can_lock : PySem.W.nsIn K mainGlobals "can_lock" = some (some (.ref f_can_lock)))
    (l_can_lock : K.lookup f_can_lock = some ⟨oc_can_lock, od_can_lock, .func (PySem.W.fnOf "can_lock" "can_lock" (defArgs s_can_lock) (defBody s_can_lock) (defScope s_can_lock) .none kV_can_lock dc_can_lock pm_can_lock an_can_lock cd_can_lock ct_can_lock), sl_can_lock⟩)
    (c_can_lock : PySem.W.codeIn K cd_can_lock "can_lock" = true)
    (k_can_lock : PySem.W.keepIn K (.ref f_can_lock) = true)
    (a_can_stand : PySem.W.nsIn K mainGlobals "can_stand" = some (some (.ref f_can_stand)))
    (l_can_stand : K.lookup f_can_stand = some ⟨oc_can_stand, od_can_stand, .func (PySem.W.fnOf "can_stand" "can_stand" (defArgs s_can_stand) (defBody s_can_stand) (defScope s_can_stand) .none kV_can_stand dc_can_stand pm_can_stand an_can_stand cd_can_stand ct_can_stand), sl_can_stand⟩)
    (c_can_stand : PySem.W.codeIn K cd_can_stand "can_stand" = true)
    (k_can_stand : PySem.W.keepIn K (.ref f_can_stand) = true)
    (a_Stand_init : PySem.W.findIn K (.ref A_Stand) "__init__" = some (some (.ref f_Stand_init)))
    (i_Stand_init : PySem.W.isFn K (.ref f_Stand_init) = true)
    (l_Stand_init : K.lookup f_Stand_init = some ⟨oc_Stand_init, od_Stand_init, .func (PySem.W.fnOf "__init__" "Stand.__init__" (defArgs s_Stand_init) (defBody s_Stand_init) (defScope s_Stand_init) .none kV_Stand_init dc_Stand_init pm_Stand_init an_Stand_init cd_Stand_init ct_Stand_init), sl_Stand_init⟩)
    (c_Stand_init : PySem.W.codeIn K cd_Stand_init "Stand.__init__" = true)
    (k_Stand_init : PySem.W.keepIn K (.ref f_Stand_init) = true)
    (a_stand_of : PySem.W.nsIn K mainGlobals "stand_of" = some (some (.ref f_stand_of)))
    (l_stand_of : K.lookup f_stand_of = some ⟨oc_stand_of, od_stand_of, .func (PySem.W.fnOf "stand_of" "stand_of" (defArgs s_stand_of) (defBody s_stand_of) (defScope s_stand_of) .none kV_stand_of dc_stand_of pm_stand_of an_stand_of cd_stand_of ct_stand_of), sl_stand_of⟩)
    (c_stand_of : PySem.W.codeIn K cd_stand_of "stand_of" = true)
    (k_stand_of : PySem.W.keepIn K (.ref f_stand_of) = true)
    (a_law_barred : PySem.W.nsIn K mainGlobals "_law_barred" = some (some (.ref f_law_barred)))
    (l_law_barred : K.lookup f_law_barred = some ⟨oc_law_barred, od_law_barred, .func (PySem.W.fnOf "_law_barred" "_law_barred" (defArgs s_law_barred) (defBody s_law_barred) (defScope s_law_barred) .none kV_law_barred dc_law_barred pm_law_barred an_law_barred cd_law_barred ct_law_barred), sl_law_barred⟩)
    (c_law_barred : PySem.W.codeIn K cd_law_barred "_law_barred" = true)
    (k_law_barred : PySem.W.keepIn K (.ref f_law_barred) = true)
    (a_law_sets : PySem.W.nsIn K mainGlobals "_law_sets" = some (some (.ref f_law_sets)))
    (l_law_sets : K.lookup f_law_sets = some ⟨oc_law_sets, od_law_sets, .func (PySem.W.fnOf "_law_sets" "_law_sets" (defArgs s_law_sets) (defBody s_law_sets) (defScope s_law_sets) .none kV_law_sets dc_law_sets pm_law_sets an_law_sets cd_law_sets ct_law_sets), sl_law_sets⟩)
    (c_law_sets : PySem.W.codeIn K cd_law_sets "_law_sets" = true)
    (k_law_sets : PySem.W.keepIn K (.ref f_law_sets) = true)
    (a_is_rising : PySem.W.nsIn K mainGlobals "is_rising" = some (some (.ref f_is_rising)))
    (l_is_rising : K.lookup f_is_rising = some ⟨oc_is_rising, od_is_rising, .func (PySem.W.fnOf "is_rising" "is_rising" (defArgs s_is_rising) (defBody s_is_rising) (defScope s_is_rising) .none kV_is_rising dc_is_rising pm_is_rising an_is_rising cd_is_rising ct_is_rising), sl_is_rising⟩)
    (c_is_rising : PySem.W.codeIn K cd_is_rising "is_rising" = true)
    (k_is_rising : PySem.W.keepIn K (.ref f_is_rising) = true)
    (a_is_set : PySem.W.nsIn K mainGlobals "is_set" = some (some (.ref f_is_set)))
    (l_is_set : K.lookup f_is_set = some ⟨oc_is_set, od_is_set, .func (PySem.W.fnOf "is_set" "is_set" (defArgs s_is_set) (defBody s_is_set) (defScope s_is_set) .none kV_is_set dc_is_set pm_is_set an_is_set cd_is_set ct_is_set), sl_is_set⟩)
    (c_is_set : PySem.W.codeIn K cd_is_set "is_set" = true)
    (k_is_set : PySem.W.keepIn K (.ref f_is_set) = true)
    (a_Table_amount : PySem.W.findIn K (.ref A_Table) "amount" = some (some (.ref f_Table_amount)))
    (i_Table_amount : PySem.W.isFn K (.ref f_Table_amount) = true)
    (l_Table_amount : K.lookup f_Table_amount = some ⟨oc_Table_amount, od_Table_amount, .func (PySem.W.fnOf "amount" "Table.amount" (defArgs s_Table_amount) (defBody s_Table_amount) (defScope s_Table_amount) .none kV_Table_amount dc_Table_amount pm_Table_amount an_Table_amount cd_Table_amount ct_Table_amount), sl_Table_amount⟩)
    (c_Table_amount : PySem.W.codeIn K cd_Table_amount "Table.amount" = true)
    (k_Table_amount : PySem.W.keepIn K (.ref f_Table_amount) = true)
    (a_law_share : PySem.W.nsIn K mainGlobals "_law_share" = some (some (.ref f_law_share)))
    (l_law_share : K.lookup f_law_share = some ⟨oc_law_share, od_law_share, .func (PySem.W.fnOf "_law_share" "_law_share" (defArgs s_law_share) (defBody s_law_share) (defScope s_law_share) .none kV_law_share dc_law_share pm_law_share an_law_share cd_law_share ct_law_share), sl_law_share⟩)
    (c_law_share : PySem.W.codeIn K cd_law_share "_law_share" = true)
    (k_law_share : PySem.W.keepIn K (.ref f_law_share) = true)
    (a_law_right : PySem.W.nsIn K mainGlobals "_law_right" = some (some (.ref f_law_right)))
    (l_law_right : K.lookup f_law_right = some ⟨oc_law_right, od_law_right, .func (PySem.W.fnOf "_law_right" "_law_right" (defArgs s_law_right) (defBody s_law_right) (defScope s_law_right) .none kV_law_right dc_law_right pm_law_right an_law_right cd_law_right ct_law_right), sl_law_right⟩)
    (c_law_right : PySem.W.codeIn K cd_law_right "_law_right" = true)
    (k_law_right : PySem.W.keepIn K (.ref f_law_right) = true)
    (a_law_odd_row : PySem.W.nsIn K mainGlobals "_law_odd_row" = some (some (.ref f_law_odd_row)))
    (l_law_odd_row : K.lookup f_law_odd_row = some ⟨oc_law_odd_row, od_law_odd_row, .func (PySem.W.fnOf "_law_odd_row" "_law_odd_row" (defArgs s_law_odd_row) (defBody s_law_odd_row) (defScope s_law_odd_row) .none kV_law_odd_row dc_law_odd_row pm_law_odd_row an_law_odd_row cd_law_odd_row ct_law_odd_row), sl_law_odd_row⟩)
    (c_law_odd_row : PySem.W.codeIn K cd_law_odd_row "_law_odd_row" = true)
    (k_law_odd_row : PySem.W.keepIn K (.ref f_law_odd_row) = true)
    (a_law_names : PySem.W.nsIn K mainGlobals "_law_names" = some (some (.ref f_law_names)))
    (l_law_names : K.lookup f_law_names = some ⟨oc_law_names, od_law_names, .func (PySem.W.fnOf "_law_names" "_law_names" (defArgs s_law_names) (defBody s_law_names) (defScope s_law_names) .none kV_law_names dc_law_names pm_law_names an_law_names cd_law_names ct_law_names), sl_law_names⟩)
    (c_law_names : PySem.W.codeIn K cd_law_names "_law_names" = true)
    (k_law_names : PySem.W.keepIn K (.ref f_law_names) = true)
    (a_law_rooms : PySem.W.nsIn K mainGlobals "_law_rooms" = some (some (.ref f_law_rooms)))
    (l_law_rooms : K.lookup f_law_rooms = some ⟨oc_law_rooms, od_law_rooms, .func (PySem.W.fnOf "_law_rooms" "_law_rooms" (defArgs s_law_rooms) (defBody s_law_rooms) (defScope s_law_rooms) .none kV_law_rooms dc_law_rooms pm_law_rooms an_law_rooms cd_law_rooms ct_law_rooms), sl_law_rooms⟩)
    (c_law_rooms : PySem.W.codeIn K cd_law_rooms "_law_rooms" = true)
    (k_law_rooms : PySem.W.keepIn K (.ref f_law_rooms) = true)
    (a_law_kinds : PySem.W.nsIn K mainGlobals "_law_kinds" = some (some (.ref f_law_kinds)))
    (l_law_kinds : K.lookup f_law_kinds = some ⟨oc_law_kinds, od_law_kinds, .func (PySem.W.fnOf "_law_kinds" "_law_kinds" (defArgs s_law_kinds) (defBody s_law_kinds) (defScope s_law_kinds) .none kV_law_kinds dc_law_kinds pm_law_kinds an_law_kinds cd_law_kinds ct_law_kinds), sl_law_kinds⟩)
    (c_law_kinds : PySem.W.codeIn K cd_law_kinds "_law_kinds" = true)
    (k_law_kinds : PySem.W.keepIn K (.ref f_law_kinds) = true)
    (a_law_place : PySem.W.nsIn K mainGlobals "_law_place" = some (some (.ref f_law_place)))
    (l_law_place : K.lookup f_law_place = some ⟨oc_law_place, od_law_place, .func (PySem.W.fnOf "_law_place" "_law_place" (defArgs s_law_place) (defBody s_law_place) (defScope s_law_place) .none kV_law_place dc_law_place pm_law_place an_law_place cd_law_place ct_law_place), sl_law_place⟩)
    (c_law_place : PySem.W.codeIn K cd_law_place "_law_place" = true)
    (k_law_place : PySem.W.keepIn K (.ref f_law_place) = true)
    (a_law_bag : PySem.W.nsIn K mainGlobals "_law_bag" = some (some (.ref f_law_bag)))
    (l_law_bag : K.lookup f_law_bag = some ⟨oc_law_bag, od_law_bag, .func (PySem.W.fnOf "_law_bag" "_law_bag" (defArgs s_law_bag) (defBody s_law_bag) (defScope s_law_bag) .none kV_law_bag dc_law_bag pm_law_bag an_law_bag cd_law_bag ct_law_bag), sl_law_bag⟩)
    (c_law_bag : PySem.W.codeIn K cd_law_bag "_law_bag" = true)
    (k_law_bag : PySem.W.keepIn K (.ref f_law_bag) = true)
    (a_law : PySem.W.nsIn K mainGlobals "law" = some (some (.ref f_law)))
    (l_law : K.lookup f_law = some ⟨oc_law, od_law, .func (PySem.W.fnOf "law" "law" (defArgs s_law) (defBody s_law) (defScope s_law) .none kV_law dc_law pm_law an_law cd_law ct_law), sl_law⟩)
    (c_law : PySem.W.codeIn K cd_law "law" = true)
    (k_law : PySem.W.keepIn K (.ref f_law) = true)
    (xaC_NoBook : PySem.W.nsIn K mainGlobals "NoBook" = some (some (.ref A_NoBook)))
    (xL_NoBook : K.lookup A_NoBook = some (excClassObj xnm_NoBook xq_NoBook A_NoBook xN_NoBook xbs_NoBook [.type "ValueError", .type "Exception", .type "BaseException", .type "object"] true xsn_NoBook xsub_NoBook xab_NoBook xcol_NoBook xdd_NoBook xm0_NoBook xm1_NoBook xm2_NoBook xm3_NoBook xm5_NoBook "ValueError.__new__"))
    (xsa_NoBook : PySem.W.findIn K (.ref A_NoBook) "__setattr__" = some (some (.builtin "object.__setattr__")))
    (xga_NoBook : PySem.W.findIn K (.ref A_NoBook) "__getattribute__" = some (some (.builtin "BaseException.__getattribute__")))
    (xgg_NoBook : PySem.W.findIn K (.ref A_NoBook) "__getattr__" = some none)
    (xf_NoBook : PySem.W.findIn K (.ref A_NoBook) "at" = some none)
    (xg_NoBook : PySem.W.findIn K (.ref A_NoBook) "called" = some none)
    (xi_NoBook : PySem.W.findIn K (.ref A_NoBook) "__init__" = some (some (.ref fI_NoBook)))
    (xti_NoBook : PySem.W.typeIn K (.ref fI_NoBook) = some (.type "function"))
    (xl_NoBook : K.lookup fI_NoBook = some ⟨xoc_NoBook, xod_NoBook, .func (PySem.W.fnOf "__init__" "NoBook.__init__" (defArgs s_NoBook_init) (defBody s_NoBook_init) (defScope s_NoBook_init) .none xkV_NoBook xdc_NoBook xpm_NoBook xan_NoBook xcd_NoBook xct_NoBook), xsl_NoBook⟩)
    (xc_NoBook : PySem.W.codeIn K xcd_NoBook "NoBook.__init__" = true)
    (xk_NoBook : PySem.W.keepIn K (.ref fI_NoBook) = true)
    (xkC_NoBook : PySem.W.keepIn K (.ref A_NoBook) = true)
    (xeC_NoBook : PySem.W.subIn K (.ref A_NoBook) (.type "BaseException") = some true)
    (xtC_NoBook : PySem.W.typeIn K (.ref A_NoBook) = some (.type "type"))
    (xhC_NoBook : PySem.W.hasDictIn K A_NoBook = true)
    (xsC_NoBook : PySem.W.subIn K (.ref A_NoBook) (.ref A_NoBook) = some true)
    (xca_NoBook : PySem.W.findIn K (.ref A_NoBook) "__class__" = some (some (.builtin "object.__class__")))
    (xcn_NoBook : PySem.W.specialIn K (.builtin "object.__class__") "__get__" = some (some (.builtin "getset_descriptor.__get__")))
    (xct_NoBook0 : PySem.W.takesIn K (.builtin "object.__class__") = some true)
    (xcm_NoBook : PySem.W.mroIn K A_NoBook (.type "object") = some true)
    (xvV_NoBook : PySem.W.findCls K (.type "ValueError") (.type "type") "__init__" = some (.val (.builtin "ValueError.__init__")))
    (xb_NoBook_NoCount : PySem.W.nsIn K mainGlobals "NoCount" = some (some (.ref B_NoBook_NoCount)))
    (ik_xNoBook_NoCount : PySem.W.kitOne K (.ref A_NoBook) (.ref B_NoBook_NoCount) = some false)
    (xb_NoBook_NoHouse : PySem.W.nsIn K mainGlobals "NoHouse" = some (some (.ref B_NoBook_NoHouse)))
    (ik_xNoBook_NoHouse : PySem.W.kitOne K (.ref A_NoBook) (.ref B_NoBook_NoHouse) = some false)
    (xb_NoBook_NoName : PySem.W.nsIn K mainGlobals "NoName" = some (some (.ref B_NoBook_NoName)))
    (ik_xNoBook_NoName : PySem.W.kitOne K (.ref A_NoBook) (.ref B_NoBook_NoName) = some false)
    (xb_NoBook_NoRow : PySem.W.nsIn K mainGlobals "NoRow" = some (some (.ref B_NoBook_NoRow)))
    (ik_xNoBook_NoRow : PySem.W.kitOne K (.ref A_NoBook) (.ref B_NoBook_NoRow) = some false)
    (xb_NoBook_NoText : PySem.W.nsIn K mainGlobals "NoText" = some (some (.ref B_NoBook_NoText)))
    (ik_xNoBook_NoText : PySem.W.kitOne K (.ref A_NoBook) (.ref B_NoBook_NoText) = some false)
    (xb_NoBook_Taken : PySem.W.nsIn K mainGlobals "Taken" = some (some (.ref B_NoBook_Taken)))
    (ik_xNoBook_Taken : PySem.W.kitOne K (.ref A_NoBook) (.ref B_NoBook_Taken) = some false)
    (ik_xvNoBook : PySem.W.kitOne K (.ref A_NoBook) (.type "ValueError") = some true)
    (ga_CAN : PySem.W.nsIn K mainGlobals "CAN" = some (some (.ref D_CAN)))
    (gl_CAN : K.lookup D_CAN = some ⟨.type "dict", none, .dict es_CAN ne_CAN, #[]⟩)
    (gk_CAN : PySem.W.KeysLit w.params es_CAN.toList)
    (gs_CAN : (D_CAN == sysModules) = false)
    (gn_CAN_Lock : PySem.W.nsIn K D_CAN "Lock" = some none)
    (gt_CAN_unlock : PySem.W.nsIn K D_CAN "unlock" = some (some (.ref f_can_unlock)))
    (gt_CAN_lock : PySem.W.nsIn K D_CAN "lock" = some (some (.ref f_can_lock)))
    (ga_COUNTS : PySem.W.nsIn K mainGlobals "COUNTS" = some (some (.ref D_COUNTS)))
    (gl_COUNTS : K.lookup D_COUNTS = some ⟨.type "dict", none, .dict es_COUNTS ne_COUNTS, #[]⟩)
    (gk_COUNTS : PySem.W.KeysLit w.params es_COUNTS.toList)
    (gs_COUNTS : (D_COUNTS == sysModules) = false)
    (gt_COUNTS_unlock : PySem.W.nsIn K D_COUNTS "unlock" = some (some (.int 2 gtk_COUNTS_unlock)))
    (gt_COUNTS_lock : PySem.W.nsIn K D_COUNTS "lock" = some (some (.int 1 gtk_COUNTS_lock)))
    (ga_PUT : PySem.W.nsIn K mainGlobals "PUT" = some (some (.ref D_PUT)))
    (gl_PUT : K.lookup D_PUT = some ⟨.type "dict", none, .dict es_PUT ne_PUT, #[]⟩)
    (gk_PUT : PySem.W.KeysLit w.params es_PUT.toList)
    (gs_PUT : (D_PUT == sysModules) = false)
    (gt_PUT_unlock : PySem.W.nsIn K D_PUT "unlock" = some (some (.ref f_put_places)))
    (gt_PUT_lock : PySem.W.nsIn K D_PUT "lock" = some (some (.ref f_put_places)))
    (q_MOST_AT_ONCE : PySem.W.nsIn K mainGlobals "MOST_AT_ONCE" = some (some (.int 50 t_MOST_AT_ONCE)))
    (z_ValueError : PySem.W.nsIn K mainGlobals "ValueError" = some none)
    (z_abs : PySem.W.nsIn K mainGlobals "abs" = some none)
    (z_all : PySem.W.nsIn K mainGlobals "all" = some none)
    (z_any : PySem.W.nsIn K mainGlobals "any" = some none)
    (z_bool : PySem.W.nsIn K mainGlobals "bool" = some none)
    (z_dict : PySem.W.nsIn K mainGlobals "dict" = some none)
    (z_enumerate : PySem.W.nsIn K mainGlobals "enumerate" = some none)
    (z_int : PySem.W.nsIn K mainGlobals "int" = some none)
    (z_isinstance : PySem.W.nsIn K mainGlobals "isinstance" = some none)
    (z_len : PySem.W.nsIn K mainGlobals "len" = some none)
    (z_list : PySem.W.nsIn K mainGlobals "list" = some none)
    (z_max : PySem.W.nsIn K mainGlobals "max" = some none)
    (z_min : PySem.W.nsIn K mainGlobals "min" = some none)
    (z_range : PySem.W.nsIn K mainGlobals "range" = some none)
    (z_repr : PySem.W.nsIn K mainGlobals "repr" = some none)
    (z_sorted : PySem.W.nsIn K mainGlobals "sorted" = some none)
    (z_str : PySem.W.nsIn K mainGlobals "str" = some none)
    (z_sum : PySem.W.nsIn K mainGlobals "sum" = some none)
    (z_tuple : PySem.W.nsIn K mainGlobals "tuple" = some none)
    (z_zip : PySem.W.nsIn K mainGlobals "zip" = some none)
    : ∃ fd : FuncData, (∀ (s : Shared) (v : Value), BindsTo s fd ⟨[v], []⟩ [("_law_script", v)]) ∧ ∀ base : Heap, K.In base → base.Ns mainGlobals mg → FnOk l.prog w K mg base CX0 9 fa fd ["_law_script"] (Dn.spLaw K) := by
  have e := hfa.symm.trans (PySem.W.mg_of X Gh a_law)
  cases e
  have cl_Table : Cls K A_Table := ⟨pg_Table, hd_Table, po_Table, sa_Table⟩
  have cd_Table : ClsD K "Table" ["kinds", "amounts"] := ⟨A_Table, aC_Table, cl_Table, fun f hf => by
    simp only [List.mem_cons, List.not_mem_nil, or_false] at hf
    rcases hf with rfl | rfl
    · exact nf_Table_kinds
    · exact nf_Table_amounts⟩
  have cl_Stand : Cls K A_Stand := ⟨pg_Stand, hd_Stand, po_Stand, sa_Stand⟩
  have cd_Stand : ClsD K "Stand" ["kinds", "plan", "sets", "amounts", "stock", "people", "pieces", "home"] := ⟨A_Stand, aC_Stand, cl_Stand, fun f hf => by
    simp only [List.mem_cons, List.not_mem_nil, or_false] at hf
    rcases hf with rfl | rfl | rfl | rfl | rfl | rfl | rfl | rfl
    · exact nf_Stand_kinds
    · exact nf_Stand_plan
    · exact nf_Stand_sets
    · exact nf_Stand_amounts
    · exact nf_Stand_stock
    · exact nf_Stand_people
    · exact nf_Stand_pieces
    · exact nf_Stand_home⟩
  have gd_CAN : KtD K w mg "CAN" tin_CAN tget_CAN := ⟨D_CAN, es_CAN, ne_CAN, PySem.W.mg_of X Gh ga_CAN, ga_CAN, ⟨gl_CAN, gk_CAN, gs_CAN⟩, tabs_ok (fun p hp => by
    simp only [tin_CAN, List.mem_cons, List.not_mem_nil, or_false] at hp
    rcases hp with rfl | rfl | rfl
    · exact ⟨_, gt_CAN_unlock, rfl⟩
    · exact ⟨_, gt_CAN_lock, rfl⟩
    · exact ⟨_, gn_CAN_Lock, rfl⟩), tabs_ok (fun p hp => by
    simp only [tget_CAN, List.mem_cons, List.not_mem_nil, or_false] at hp
    rcases hp with rfl | rfl
    · exact ⟨_, .ref f_can_unlock, gt_CAN_unlock, rfl, fun _ _ => .fn a_can_unlock⟩
    · exact ⟨_, .ref f_can_lock, gt_CAN_lock, rfl, fun _ _ => .fn a_can_lock⟩)⟩
  have gd_COUNTS : KtD K w mg "COUNTS" tin_COUNTS tget_COUNTS := ⟨D_COUNTS, es_COUNTS, ne_COUNTS, PySem.W.mg_of X Gh ga_COUNTS, ga_COUNTS, ⟨gl_COUNTS, gk_COUNTS, gs_COUNTS⟩, tabs_ok (fun p hp => by
    simp only [tin_COUNTS, List.mem_cons, List.not_mem_nil, or_false] at hp), tabs_ok (fun p hp => by
    simp only [tget_COUNTS, List.mem_cons, List.not_mem_nil, or_false] at hp
    rcases hp with rfl | rfl
    · exact ⟨_, .int 2, gt_COUNTS_unlock, ⟨_, rfl⟩, fun _ _ => .int _⟩
    · exact ⟨_, .int 1, gt_COUNTS_lock, ⟨_, rfl⟩, fun _ _ => .int _⟩)⟩
  have gd_PUT : KtD K w mg "PUT" tin_PUT tget_PUT := ⟨D_PUT, es_PUT, ne_PUT, PySem.W.mg_of X Gh ga_PUT, ga_PUT, ⟨gl_PUT, gk_PUT, gs_PUT⟩, tabs_ok (fun p hp => by
    simp only [tin_PUT, List.mem_cons, List.not_mem_nil, or_false] at hp), tabs_ok (fun p hp => by
    simp only [tget_PUT, List.mem_cons, List.not_mem_nil, or_false] at hp
    rcases hp with rfl | rfl
    · exact ⟨_, .ref f_put_places, gt_PUT_unlock, rfl, fun _ _ => .fn a_put_places⟩
    · exact ⟨_, .ref f_put_places, gt_PUT_lock, rfl, fun _ _ => .fn a_put_places⟩)⟩
  have ox_NoBook : OexC K A_NoBook := ⟨⟨_, _, _, _, _, _, _, _, _, _, _, _, _, _, _, xL_NoBook, by decide +kernel⟩, xsa_NoBook, xeC_NoBook, xtC_NoBook, xkC_NoBook⟩
  have xsd_NoBook : XsD K mg "NoBook" "at" ["NoCount", "NoHouse", "NoName", "NoRow", "NoText", "Taken"] := ⟨A_NoBook, [B_NoBook_NoCount, B_NoBook_NoHouse, B_NoBook_NoName, B_NoBook_NoRow, B_NoBook_NoText, B_NoBook_Taken], PySem.W.mg_of X Gh xaC_NoBook, .cons (PySem.W.mg_of X Gh xb_NoBook_NoCount) (.cons (PySem.W.mg_of X Gh xb_NoBook_NoHouse) (.cons (PySem.W.mg_of X Gh xb_NoBook_NoName) (.cons (PySem.W.mg_of X Gh xb_NoBook_NoRow) (.cons (PySem.W.mg_of X Gh xb_NoBook_NoText) (.cons (PySem.W.mg_of X Gh xb_NoBook_Taken) (.nil)))))), ⟨xga_NoBook, xgg_NoBook, xeC_NoBook, xhC_NoBook, xca_NoBook, xcn_NoBook, xct_NoBook0, xcm_NoBook⟩, ⟨xga_NoBook, xgg_NoBook, xeC_NoBook, xhC_NoBook⟩, xf_NoBook, PySem.W.exm_ref xeC_NoBook xhC_NoBook xtC_NoBook xsC_NoBook, by simp [PySem.W.kitAny, ik_xNoBook_NoCount, ik_xNoBook_NoHouse, ik_xNoBook_NoName, ik_xNoBook_NoRow, ik_xNoBook_NoText, ik_xNoBook_Taken], ik_xvNoBook⟩
  have T : G w K mg := ⟨PySem.W.mg_none_of X Gh z_ValueError, PySem.W.mg_none_of X Gh z_abs, PySem.W.mg_none_of X Gh z_all, PySem.W.mg_none_of X Gh z_any, PySem.W.mg_none_of X Gh z_bool, PySem.W.mg_none_of X Gh z_dict, PySem.W.mg_none_of X Gh z_enumerate, PySem.W.mg_none_of X Gh z_int, PySem.W.mg_none_of X Gh z_isinstance, PySem.W.mg_none_of X Gh z_len, PySem.W.mg_none_of X Gh z_list, PySem.W.mg_none_of X Gh z_max, PySem.W.mg_none_of X Gh z_min, PySem.W.mg_none_of X Gh z_range, PySem.W.mg_none_of X Gh z_repr, PySem.W.mg_none_of X Gh z_sorted, PySem.W.mg_none_of X Gh z_str, PySem.W.mg_none_of X Gh z_sum, PySem.W.mg_none_of X Gh z_tuple, PySem.W.mg_none_of X Gh z_zip, ⟨_, PySem.W.mg_of X Gh q_MOST_AT_ONCE, ⟨_, rfl⟩⟩, cd_Table, cd_Stand, gd_CAN, gd_COUNTS, gd_PUT, xsd_NoBook⟩
  refine ⟨PySem.W.fnOf "law" "law" (defArgs s_law) (defBody s_law) (defScope s_law) .none kV_law dc_law pm_law an_law cd_law ct_law, fun s v => .of_eq rfl, fun base _ _ => ?_⟩
  have FI_NoBook := fun_mk (st := s_NoBook_init) xl_NoBook xc_NoBook xk_NoBook
  have OI_NoBook := okI_NoBook (base := base) (P := l.prog) (w := w) FI_NoBook ox_NoBook xf_NoBook xg_NoBook (PySem.W.mg_none_of X Gh z_ValueError) xvV_NoBook
  have BI_NoBook := FI_NoBook.binds (ps := ["self", "at"]) fun _ _ _ _ _ _ us hl => match us, hl with | [_, _], _ => rfl
  have Xc_NoBook : XcD l.prog w K mg base 1 "NoBook" "at" := ⟨A_NoBook, fI_NoBook, _, _, PySem.W.mg_of X Gh xaC_NoBook, ox_NoBook, xi_NoBook, xti_NoBook, OI_NoBook, BI_NoBook⟩
  have F_law_take := fun_mk (st := s_law_take) l_law_take c_law_take k_law_take
  have O_law_take := ok_law_take (base := base) (P := l.prog) (w := w) T F_law_take
  have B_law_take := F_law_take.binds (ps := ["_law_bag_here", "_law_often"]) fun _ _ _ _ _ _ us hl => match us, hl with | [_, _], _ => rfl
  have C_law_take : FnD l.prog w K mg base 1 "_law_take" 2 Law.f_law_take := ⟨f_law_take, _, _, O_law_take, PySem.W.mg_of X Gh a_law_take, k_law_take, B_law_take⟩
  have F_set_order := fun_mk (st := s_set_order) l_set_order c_set_order k_set_order
  have O_set_order := ok_set_order (base := base) (P := l.prog) (w := w) T F_set_order
  have B_set_order := F_set_order.binds (ps := ["of"]) fun _ _ _ _ _ _ us hl => match us, hl with | [_], _ => rfl
  have C_set_order : FnD l.prog w K mg base 1 "set_order" 1 Law.f_set_order := ⟨f_set_order, _, _, O_set_order, PySem.W.mg_of X Gh a_set_order, k_set_order, B_set_order⟩
  have F_sets_of := fun_mk (st := s_sets_of) l_sets_of c_sets_of k_sets_of
  have O_sets_of := ok_sets_of (base := base) (P := l.prog) (w := w) T C_set_order F_sets_of
  have B_sets_of := F_sets_of.binds (ps := ["kinds"]) fun _ _ _ _ _ _ us hl => match us, hl with | [_], _ => rfl
  have C_sets_of : FnD l.prog w K mg base 4 "sets_of" 1 Law.f_sets_of := ⟨f_sets_of, _, _, O_sets_of, PySem.W.mg_of X Gh a_sets_of, k_sets_of, B_sets_of⟩
  have F_Table_init : FunD K "__init__" "Table.__init__" (defArgs s_Table_init) (defBody s_Table_init) (defScope s_Table_init) [.ref EE_Table_init] [] f_Table_init _ := ⟨⟨_, _, _, _, _, _, _, _, _, _, rfl, l_Table_init, c_Table_init, .inr ⟨by simp, TT_Table_init, _, [.ref EE_Table_init], _, rfl, t_Table_init, rfl, .cons rfl .nil⟩, .inl rfl⟩, k_Table_init⟩
  have O_Table_init := ok_Table_init (base := base) (P := l.prog) (w := w) T C_sets_of F_Table_init
  have C_mk_Table_2 : MkD l.prog w K mg base 5 "Table" 2 [] Law.f_Table_init := by
    obtain ⟨ds, v1, b1⟩ := F_Table_init.binds1 (ps := ["self", "kinds", "rows"]) 3 1 (by simp) rfl fun _ _ _ _ _ _ _ us its h1 h2 => match us, its, h1, h2 with | [_, _, _], [_], _, _ => ⟨_, rfl, rfl⟩
    exact ⟨A_Table, f_Table_init, _, _, ds, _, aC_Table, PySem.W.mg_of X Gh aC_Table, ⟨mk_Table, a_Table_init, i_Table_init, kc_Table⟩, O_Table_init, b1, v1, fun _ _ => .nil⟩
  have F_takes_of := fun_mk (st := s_takes_of) l_takes_of c_takes_of k_takes_of
  have O_takes_of := ok_takes_of (base := base) (P := l.prog) (w := w) T F_takes_of
  have B_takes_of := F_takes_of.binds (ps := ["stand", "room"]) fun _ _ _ _ _ _ us hl => match us, hl with | [_, _], _ => rfl
  have C_takes_of : FnD l.prog w K mg base 1 "takes_of" 2 Law.f_takes_of := ⟨f_takes_of, _, _, O_takes_of, PySem.W.mg_of X Gh a_takes_of, k_takes_of, B_takes_of⟩
  have F_served := fun_mk (st := s_served) l_served c_served k_served
  have O_served := ok_served (base := base) (P := l.prog) (w := w) T C_takes_of F_served
  have B_served := F_served.binds (ps := ["stand", "room"]) fun _ _ _ _ _ _ us hl => match us, hl with | [_, _], _ => rfl
  have C_served : FnD l.prog w K mg base 2 "served" 2 Law.f_served := ⟨f_served, _, _, O_served, PySem.W.mg_of X Gh a_served, k_served, B_served⟩
  have F_move_places := fun_mk (st := s_move_places) l_move_places c_move_places k_move_places
  have O_move_places := ok_move_places (base := base) (P := l.prog) (w := w) T C_served F_move_places
  have B_move_places := F_move_places.binds (ps := ["stand", "room", "many"]) fun _ _ _ _ _ _ us hl => match us, hl with | [_, _, _], _ => rfl
  have C_move_places : FnD l.prog w K mg base 3 "move_places" 3 Law.f_move_places := ⟨f_move_places, _, _, O_move_places, PySem.W.mg_of X Gh a_move_places, k_move_places, B_move_places⟩
  have F_put_places := fun_mk (st := s_put_places) l_put_places c_put_places k_put_places
  have O_put_places := ok_put_places (base := base) (P := l.prog) (w := w) T C_move_places F_put_places
  have B_put_places := F_put_places.binds (ps := ["stand", "row"]) fun _ _ _ _ _ _ us hl => match us, hl with | [_, _], _ => rfl
  have K_put_places : FnG l.prog w K mg base 4 "put_places" 2 Law.f_put_places := ⟨f_put_places, _, _, O_put_places, a_put_places, k_put_places, B_put_places⟩
  have F_put_row := fun_mk (st := s_put_row) l_put_row c_put_row k_put_row
  have O_put_row := ok_put_row (base := base) (P := l.prog) (w := w) T K_put_places F_put_row
  have B_put_row := F_put_row.binds (ps := ["stand", "row"]) fun _ _ _ _ _ _ us hl => match us, hl with | [_, _], _ => rfl
  have C_put_row : FnD l.prog w K mg base 5 "put_row" 2 Law.f_put_row := ⟨f_put_row, _, _, O_put_row, PySem.W.mg_of X Gh a_put_row, k_put_row, B_put_row⟩
  have F_is_room := fun_mk (st := s_is_room) l_is_room c_is_room k_is_room
  have O_is_room := ok_is_room (base := base) (P := l.prog) (w := w) T F_is_room
  have B_is_room := F_is_room.binds (ps := ["stand", "thing"]) fun _ _ _ _ _ _ us hl => match us, hl with | [_, _], _ => rfl
  have C_is_room : FnD l.prog w K mg base 1 "is_room" 2 Law.f_is_room := ⟨f_is_room, _, _, O_is_room, PySem.W.mg_of X Gh a_is_room, k_is_room, B_is_room⟩
  have F_is_whole : FunD K "is_whole" "is_whole" (defArgs s_is_whole) (defBody s_is_whole) (defScope s_is_whole) [] [("least", .int 0), ("most", .non)] f_is_whole _ := ⟨⟨_, _, _, _, _, _, _, _, _, _, rfl, l_is_whole, c_is_whole, .inl ⟨rfl, rfl⟩, .inr ⟨KK_is_whole, rfl, fun q hq => by
    simp only [List.mem_cons, List.not_mem_nil, or_false] at hq
    rcases hq with rfl | rfl
    · exact ⟨_, kd_is_whole_least, ⟨_, rfl⟩⟩
    · exact ⟨_, kd_is_whole_most, rfl⟩⟩⟩, k_is_whole⟩
  have O_is_whole := ok_is_whole (base := base) (P := l.prog) (w := w) T F_is_whole
  have C_is_whole : FnKD l.prog w K mg base 1 "is_whole" 1 ["least", "most"] Law.f_is_whole := ⟨f_is_whole, _, _, O_is_whole, PySem.W.mg_of X Gh a_is_whole, k_is_whole, kbD_of (ps := ["thing", "least", "most"]) F_is_whole (by simp) fun _ _ _ _ _ _ us ws h1 h2 => match us, ws, h1, h2 with | [_], [_, _], _, _ => rfl⟩
  have F_can_unlock := fun_mk (st := s_can_unlock) l_can_unlock c_can_unlock k_can_unlock
  have O_can_unlock := ok_can_unlock (base := base) (P := l.prog) (w := w) T C_is_room C_is_whole F_can_unlock
  have B_can_unlock := F_can_unlock.binds (ps := ["stand", "parts"]) fun _ _ _ _ _ _ us hl => match us, hl with | [_, _], _ => rfl
  have K_can_unlock : FnG l.prog w K mg base 2 "can_unlock" 2 Law.f_can_unlock := ⟨f_can_unlock, _, _, O_can_unlock, a_can_unlock, k_can_unlock, B_can_unlock⟩
  have F_over_at := fun_mk (st := s_over_at) l_over_at c_over_at k_over_at
  have O_over_at := ok_over_at (base := base) (P := l.prog) (w := w) T F_over_at
  have B_over_at := F_over_at.binds (ps := ["stand", "of"]) fun _ _ _ _ _ _ us hl => match us, hl with | [_, _], _ => rfl
  have C_over_at : FnD l.prog w K mg base 1 "over_at" 2 Law.f_over_at := ⟨f_over_at, _, _, O_over_at, PySem.W.mg_of X Gh a_over_at, k_over_at, B_over_at⟩
  have F_are_over := fun_mk (st := s_are_over) l_are_over c_are_over k_are_over
  have O_are_over := ok_are_over (base := base) (P := l.prog) (w := w) T C_over_at F_are_over
  have B_are_over := F_are_over.binds (ps := ["stand", "sets"]) fun _ _ _ _ _ _ us hl => match us, hl with | [_, _], _ => rfl
  have C_are_over : FnD l.prog w K mg base 2 "are_over" 2 Law.f_are_over := ⟨f_are_over, _, _, O_are_over, PySem.W.mg_of X Gh a_are_over, k_are_over, B_are_over⟩
  have F_can_lock := fun_mk (st := s_can_lock) l_can_lock c_can_lock k_can_lock
  have O_can_lock := ok_can_lock (base := base) (P := l.prog) (w := w) T C_is_room C_served C_are_over F_can_lock
  have B_can_lock := F_can_lock.binds (ps := ["stand", "parts"]) fun _ _ _ _ _ _ us hl => match us, hl with | [_, _], _ => rfl
  have K_can_lock : FnG l.prog w K mg base 3 "can_lock" 2 Law.f_can_lock := ⟨f_can_lock, _, _, O_can_lock, a_can_lock, k_can_lock, B_can_lock⟩
  have F_can_stand := fun_mk (st := s_can_stand) l_can_stand c_can_stand k_can_stand
  have O_can_stand := ok_can_stand (base := base) (P := l.prog) (w := w) T K_can_unlock K_can_lock F_can_stand
  have B_can_stand := F_can_stand.binds (ps := ["stand", "row"]) fun _ _ _ _ _ _ us hl => match us, hl with | [_, _], _ => rfl
  have C_can_stand : FnD l.prog w K mg base 4 "can_stand" 2 Law.f_can_stand := ⟨f_can_stand, _, _, O_can_stand, PySem.W.mg_of X Gh a_can_stand, k_can_stand, B_can_stand⟩
  have F_Stand_init := fun_mk (st := s_Stand_init) l_Stand_init c_Stand_init k_Stand_init
  have O_Stand_init := ok_Stand_init (base := base) (P := l.prog) (w := w) T C_sets_of F_Stand_init
  have B_Stand_init := F_Stand_init.binds (ps := ["self", "kinds", "plan"]) fun _ _ _ _ _ _ us hl => match us, hl with | [_, _, _], _ => rfl
  have C_mk_Stand_2 : MkD l.prog w K mg base 5 "Stand" 2 [] Law.f_Stand_init := ⟨A_Stand, f_Stand_init, _, _, _, _, aC_Stand, PySem.W.mg_of X Gh aC_Stand, ⟨mk_Stand, a_Stand_init, i_Stand_init, kc_Stand⟩, O_Stand_init, B_Stand_init, .nil, fun _ _ => .nil⟩
  have F_stand_of := fun_mk (st := s_stand_of) l_stand_of c_stand_of k_stand_of
  have O_stand_of := ok_stand_of (base := base) (P := l.prog) (w := w) T C_mk_Table_2 C_put_row C_can_stand C_mk_Stand_2 Xc_NoBook F_stand_of
  have B_stand_of := F_stand_of.binds (ps := ["kinds", "rooms", "rows"]) fun _ _ _ _ _ _ us hl => match us, hl with | [_, _, _], _ => rfl
  have C_stand_of : FnDX l.prog w K mg base 7 "stand_of" 3 Law.f_stand_of := ⟨f_stand_of, _, _, O_stand_of, PySem.W.mg_of X Gh a_stand_of, k_stand_of, B_stand_of⟩
  have F_law_barred := fun_mk (st := s_law_barred) l_law_barred c_law_barred k_law_barred
  have O_law_barred := ok_law_barred (base := base) (P := l.prog) (w := w) T C_stand_of F_law_barred
  have B_law_barred := F_law_barred.binds (ps := ["_law_town", "_law_rows", "_law_at"]) fun _ _ _ _ _ _ us hl => match us, hl with | [_, _, _], _ => rfl
  have C_law_barred : FnD l.prog w K mg base 8 "_law_barred" 3 Law.f_law_barred := ⟨f_law_barred, _, _, O_law_barred, PySem.W.mg_of X Gh a_law_barred, k_law_barred, B_law_barred⟩
  have F_law_sets := fun_mk (st := s_law_sets) l_law_sets c_law_sets k_law_sets
  have O_law_sets := ok_law_sets (base := base) (P := l.prog) (w := w) T F_law_sets
  have B_law_sets := F_law_sets.binds (ps := ["_law_kinds_here"]) fun _ _ _ _ _ _ us hl => match us, hl with | [_], _ => rfl
  have C_law_sets : FnD l.prog w K mg base 1 "_law_sets" 1 Law.f_law_sets := ⟨f_law_sets, _, _, O_law_sets, PySem.W.mg_of X Gh a_law_sets, k_law_sets, B_law_sets⟩
  have F_is_rising := fun_mk (st := s_is_rising) l_is_rising c_is_rising k_is_rising
  have O_is_rising := ok_is_rising (base := base) (P := l.prog) (w := w) T F_is_rising
  have B_is_rising := F_is_rising.binds (ps := ["things"]) fun _ _ _ _ _ _ us hl => match us, hl with | [_], _ => rfl
  have C_is_rising : FnD l.prog w K mg base 1 "is_rising" 1 Law.f_is_rising := ⟨f_is_rising, _, _, O_is_rising, PySem.W.mg_of X Gh a_is_rising, k_is_rising, B_is_rising⟩
  have F_is_set := fun_mk (st := s_is_set) l_is_set c_is_set k_is_set
  have O_is_set := ok_is_set (base := base) (P := l.prog) (w := w) T C_is_rising F_is_set
  have B_is_set := F_is_set.binds (ps := ["kinds", "thing"]) fun _ _ _ _ _ _ us hl => match us, hl with | [_, _], _ => rfl
  have C_is_set : FnD l.prog w K mg base 2 "is_set" 2 Law.f_is_set := ⟨f_is_set, _, _, O_is_set, PySem.W.mg_of X Gh a_is_set, k_is_set, B_is_set⟩
  have F_Table_amount := fun_mk (st := s_Table_amount) l_Table_amount c_Table_amount k_Table_amount
  have O_Table_amount := ok_Table_amount (base := base) (P := l.prog) (w := w) T C_is_set F_Table_amount
  have B_Table_amount := F_Table_amount.binds (ps := ["self", "of"]) fun _ _ _ _ _ _ us hl => match us, hl with | [_, _], _ => rfl
  have C_Table_amount : MtD l.prog w K mg base 3 "Table" "amount" 2 Law.f_Table_amount := ⟨A_Table, f_Table_amount, _, _, aC_Table, cl_Table, ⟨a_Table_amount, i_Table_amount, k_Table_amount⟩, O_Table_amount, B_Table_amount⟩
  have F_law_share := fun_mk (st := s_law_share) l_law_share c_law_share k_law_share
  have O_law_share := ok_law_share (base := base) (P := l.prog) (w := w) T F_law_share
  have B_law_share := F_law_share.binds (ps := ["_law_one", "_law_other"]) fun _ _ _ _ _ _ us hl => match us, hl with | [_, _], _ => rfl
  have C_law_share : FnD l.prog w K mg base 1 "_law_share" 2 Law.f_law_share := ⟨f_law_share, _, _, O_law_share, PySem.W.mg_of X Gh a_law_share, k_law_share, B_law_share⟩
  have F_law_right := fun_mk (st := s_law_right) l_law_right c_law_right k_law_right
  have O_law_right := ok_law_right (base := base) (P := l.prog) (w := w) T C_law_sets C_Table_amount C_law_share C_stand_of F_law_right
  have B_law_right := F_law_right.binds (ps := ["_law_town", "_law_rows", "_law_stock"]) fun _ _ _ _ _ _ us hl => match us, hl with | [_, _, _], _ => rfl
  have C_law_right : FnD l.prog w K mg base 8 "_law_right" 3 Law.f_law_right := ⟨f_law_right, _, _, O_law_right, PySem.W.mg_of X Gh a_law_right, k_law_right, B_law_right⟩
  have F_law_odd_row := fun_mk (st := s_law_odd_row) l_law_odd_row c_law_odd_row k_law_odd_row
  have O_law_odd_row := ok_law_odd_row (base := base) (P := l.prog) (w := w) T C_law_take F_law_odd_row
  have B_law_odd_row := F_law_odd_row.binds (ps := ["_law_bag_here", "_law_room"]) fun _ _ _ _ _ _ us hl => match us, hl with | [_, _], _ => rfl
  have C_law_odd_row : FnD l.prog w K mg base 2 "_law_odd_row" 2 Law.f_law_odd_row := ⟨f_law_odd_row, _, _, O_law_odd_row, PySem.W.mg_of X Gh a_law_odd_row, k_law_odd_row, B_law_odd_row⟩
  have F_law_names := fun_mk (st := s_law_names) l_law_names c_law_names k_law_names
  have O_law_names := ok_law_names (base := base) (P := l.prog) (w := w) T C_law_take F_law_names
  have B_law_names := F_law_names.binds (ps := ["_law_bag_here", "_law_often"]) fun _ _ _ _ _ _ us hl => match us, hl with | [_, _], _ => rfl
  have C_law_names : FnD l.prog w K mg base 2 "_law_names" 2 Law.f_law_names := ⟨f_law_names, _, _, O_law_names, PySem.W.mg_of X Gh a_law_names, k_law_names, B_law_names⟩
  have F_law_rooms := fun_mk (st := s_law_rooms) l_law_rooms c_law_rooms k_law_rooms
  have O_law_rooms := ok_law_rooms (base := base) (P := l.prog) (w := w) T C_law_take C_law_names C_law_sets F_law_rooms
  have B_law_rooms := F_law_rooms.binds (ps := ["_law_bag_here", "_law_kinds_here", "_law_most"]) fun _ _ _ _ _ _ us hl => match us, hl with | [_, _, _], _ => rfl
  have C_law_rooms : FnD l.prog w K mg base 3 "_law_rooms" 3 Law.f_law_rooms := ⟨f_law_rooms, _, _, O_law_rooms, PySem.W.mg_of X Gh a_law_rooms, k_law_rooms, B_law_rooms⟩
  have F_law_kinds := fun_mk (st := s_law_kinds) l_law_kinds c_law_kinds k_law_kinds
  have O_law_kinds := ok_law_kinds (base := base) (P := l.prog) (w := w) T C_law_take C_law_names F_law_kinds
  have B_law_kinds := F_law_kinds.binds (ps := ["_law_bag_here"]) fun _ _ _ _ _ _ us hl => match us, hl with | [_], _ => rfl
  have C_law_kinds : FnD l.prog w K mg base 3 "_law_kinds" 1 Law.f_law_kinds := ⟨f_law_kinds, _, _, O_law_kinds, PySem.W.mg_of X Gh a_law_kinds, k_law_kinds, B_law_kinds⟩
  have F_law_place := fun_mk (st := s_law_place) l_law_place c_law_place k_law_place
  have O_law_place := ok_law_place (base := base) (P := l.prog) (w := w) T C_law_take C_law_rooms C_law_kinds F_law_place
  have B_law_place := F_law_place.binds (ps := ["_law_bag_here"]) fun _ _ _ _ _ _ us hl => match us, hl with | [_], _ => rfl
  have C_law_place : FnD l.prog w K mg base 4 "_law_place" 1 Law.f_law_place := ⟨f_law_place, _, _, O_law_place, PySem.W.mg_of X Gh a_law_place, k_law_place, B_law_place⟩
  have F_law_bag := fun_mk (st := s_law_bag) l_law_bag c_law_bag k_law_bag
  have O_law_bag := ok_law_bag (base := base) (P := l.prog) (w := w) T F_law_bag
  have B_law_bag := F_law_bag.binds (ps := ["_law_script", "_law_at"]) fun _ _ _ _ _ _ us hl => match us, hl with | [_, _], _ => rfl
  have C_law_bag : FnD l.prog w K mg base 1 "_law_bag" 2 Law.f_law_bag := ⟨f_law_bag, _, _, O_law_bag, PySem.W.mg_of X Gh a_law_bag, k_law_bag, B_law_bag⟩
  have F_law := fun_mk (st := s_law) l_law c_law k_law
  exact FnOk.imp (ok_law T C_law_take C_law_barred C_law_right C_law_odd_row C_law_place C_law_bag F_law) (Dn.law_sp plain_law)
end Law
open PySem PySem.W PyProof.Rows in
set_option maxRecDepth 100000 in
set_option maxHeartbeats 0 in
theorem PySem.Challenge.cw_crowdpurse_k11_places_unlocked_and_locke_holds : PySem.Challenge.rw_crowdpurse_k11_places_unlocked_and_locke.Holds := by
  w_on; o_law; k_head; (case hw => w_witness2)
  k_fill
  refine Dn.law_walk (l := PySem.Challenge.rw_crowdpurse_k11_places_unlocked_and_locke) (k := 9) (x := "_law_script") rfl rfl ⟨rfl, by decide, by decide⟩ (fun w h Y => PySem.W.kIn_of Y) ?F
  case F =>
    intro w mg fa h KX Gh hmg
    refine' Law.all_mk KX Gh hmg ?aC_Table ?pg_Table ?hd_Table ?po_Table ?sa_Table ?mk_Table ?kc_Table ?nf_Table_kinds ?nf_Table_amounts ?aC_Stand ?pg_Stand ?hd_Stand ?po_Stand ?sa_Stand ?mk_Stand ?kc_Stand ?nf_Stand_kinds ?nf_Stand_plan ?nf_Stand_sets ?nf_Stand_amounts ?nf_Stand_stock ?nf_Stand_people ?nf_Stand_pieces ?nf_Stand_home ?a_law_take ?l_law_take ?c_law_take ?k_law_take ?a_set_order ?l_set_order ?c_set_order ?k_set_order ?a_sets_of ?l_sets_of ?c_sets_of ?k_sets_of ?a_Table_init ?i_Table_init ?l_Table_init ?c_Table_init ?k_Table_init ?t_Table_init ?e_Table_init ?a_takes_of ?l_takes_of ?c_takes_of ?k_takes_of ?a_served ?l_served ?c_served ?k_served ?a_move_places ?l_move_places ?c_move_places ?k_move_places ?a_put_places ?l_put_places ?c_put_places ?k_put_places ?a_put_row ?l_put_row ?c_put_row ?k_put_row ?a_is_room ?l_is_room ?c_is_room ?k_is_room ?a_is_whole ?l_is_whole ?c_is_whole ?k_is_whole ?kd_is_whole_least ?kd_is_whole_most ?a_can_unlock ?l_can_unlock ?c_can_unlock ?k_can_unlock ?a_over_at ?l_over_at ?c_over_at ?k_over_at ?a_are_over ?l_are_over ?c_are_over ?k_are_over ?a_can_lock ?l_can_lock ?c_can_lock ?k_can_lock ?a_can_stand ?l_can_stand ?c_can_stand ?k_can_stand ?a_Stand_init ?i_Stand_init ?l_Stand_init ?c_Stand_init ?k_Stand_init ?a_stand_of ?l_stand_of ?c_stand_of ?k_stand_of ?a_law_barred ?l_law_barred ?c_law_barred ?k_law_barred ?a_law_sets ?l_law_sets ?c_law_sets ?k_law_sets ?a_is_rising ?l_is_rising ?c_is_rising ?k_is_rising ?a_is_set ?l_is_set ?c_is_set ?k_is_set ?a_Table_amount ?i_Table_amount ?l_Table_amount ?c_Table_amount ?k_Table_amount ?a_law_share ?l_law_share ?c_law_share ?k_law_share ?a_law_right ?l_law_right ?c_law_right ?k_law_right ?a_law_odd_row ?l_law_odd_row ?c_law_odd_row ?k_law_odd_row ?a_law_names ?l_law_names ?c_law_names ?k_law_names ?a_law_rooms ?l_law_rooms ?c_law_rooms ?k_law_rooms ?a_law_kinds ?l_law_kinds ?c_law_kinds ?k_law_kinds ?a_law_place ?l_law_place ?c_law_place ?k_law_place ?a_law_bag ?l_law_bag ?c_law_bag ?k_law_bag ?a_law ?l_law ?c_law ?k_law ?xaC_NoBook ?xL_NoBook ?xsa_NoBook ?xga_NoBook ?xgg_NoBook ?xf_NoBook ?xg_NoBook ?xi_NoBook ?xti_NoBook ?xl_NoBook ?xc_NoBook ?xk_NoBook ?xkC_NoBook ?xeC_NoBook ?xtC_NoBook ?xhC_NoBook ?xsC_NoBook ?xca_NoBook ?xcn_NoBook ?xct_NoBook0 ?xcm_NoBook ?xvV_NoBook ?xb_NoBook_NoCount ?ik_xNoBook_NoCount ?xb_NoBook_NoHouse ?ik_xNoBook_NoHouse ?xb_NoBook_NoName ?ik_xNoBook_NoName ?xb_NoBook_NoRow ?ik_xNoBook_NoRow ?xb_NoBook_NoText ?ik_xNoBook_NoText ?xb_NoBook_Taken ?ik_xNoBook_Taken ?ik_xvNoBook ?ga_CAN ?gl_CAN ?gk_CAN ?gs_CAN ?gn_CAN_Lock ?gt_CAN_unlock ?gt_CAN_lock ?ga_COUNTS ?gl_COUNTS ?gk_COUNTS ?gs_COUNTS ?gt_COUNTS_unlock ?gt_COUNTS_lock ?ga_PUT ?gl_PUT ?gk_PUT ?gs_PUT ?gt_PUT_unlock ?gt_PUT_lock ?q_MOST_AT_ONCE ?z_ValueError ?z_abs ?z_all ?z_any ?z_bool ?z_dict ?z_enumerate ?z_int ?z_isinstance ?z_len ?z_list ?z_max ?z_min ?z_range ?z_repr ?z_sorted ?z_str ?z_sum ?z_tuple ?z_zip
    (case aC_Table => k_is)
    (case pg_Table => k_is)
    (case hd_Table => k_is)
    (case po_Table => k_is)
    (case sa_Table => k_is)
    (case mk_Table => k_is)
    (case kc_Table => k_is)
    (case nf_Table_kinds => k_is)
    (case nf_Table_amounts => k_is)
    (case aC_Stand => k_is)
    (case pg_Stand => k_is)
    (case hd_Stand => k_is)
    (case po_Stand => k_is)
    (case sa_Stand => k_is)
    (case mk_Stand => k_is)
    (case kc_Stand => k_is)
    (case nf_Stand_kinds => k_is)
    (case nf_Stand_plan => k_is)
    (case nf_Stand_sets => k_is)
    (case nf_Stand_amounts => k_is)
    (case nf_Stand_stock => k_is)
    (case nf_Stand_people => k_is)
    (case nf_Stand_pieces => k_is)
    (case nf_Stand_home => k_is)
    (case a_law_take => k_is)
    (case l_law_take => k_is)
    (case c_law_take => k_is)
    (case k_law_take => k_is)
    (case a_set_order => k_is)
    (case l_set_order => k_is)
    (case c_set_order => k_is)
    (case k_set_order => k_is)
    (case a_sets_of => k_is)
    (case l_sets_of => k_is)
    (case c_sets_of => k_is)
    (case k_sets_of => k_is)
    (case a_Table_init => k_is)
    (case i_Table_init => k_is)
    (case l_Table_init => k_is)
    (case c_Table_init => k_is)
    (case k_Table_init => k_is)
    (case t_Table_init => k_is)
    (case e_Table_init => k_is)
    (case a_takes_of => k_is)
    (case l_takes_of => k_is)
    (case c_takes_of => k_is)
    (case k_takes_of => k_is)
    (case a_served => k_is)
    (case l_served => k_is)
    (case c_served => k_is)
    (case k_served => k_is)
    (case a_move_places => k_is)
    (case l_move_places => k_is)
    (case c_move_places => k_is)
    (case k_move_places => k_is)
    (case a_put_places => k_is)
    (case l_put_places => k_is)
    (case c_put_places => k_is)
    (case k_put_places => k_is)
    (case a_put_row => k_is)
    (case l_put_row => k_is)
    (case c_put_row => k_is)
    (case k_put_row => k_is)
    (case a_is_room => k_is)
    (case l_is_room => k_is)
    (case c_is_room => k_is)
    (case k_is_room => k_is)
    (case a_is_whole => k_is)
    (case l_is_whole => k_is)
    (case c_is_whole => k_is)
    (case k_is_whole => k_is)
    (case kd_is_whole_least => k_is)
    (case kd_is_whole_most => k_is)
    (case a_can_unlock => k_is)
    (case l_can_unlock => k_is)
    (case c_can_unlock => k_is)
    (case k_can_unlock => k_is)
    (case a_over_at => k_is)
    (case l_over_at => k_is)
    (case c_over_at => k_is)
    (case k_over_at => k_is)
    (case a_are_over => k_is)
    (case l_are_over => k_is)
    (case c_are_over => k_is)
    (case k_are_over => k_is)
    (case a_can_lock => k_is)
    (case l_can_lock => k_is)
    (case c_can_lock => k_is)
    (case k_can_lock => k_is)
    (case a_can_stand => k_is)
    (case l_can_stand => k_is)
    (case c_can_stand => k_is)
    (case k_can_stand => k_is)
    (case a_Stand_init => k_is)
    (case i_Stand_init => k_is)
    (case l_Stand_init => k_is)
    (case c_Stand_init => k_is)
    (case k_Stand_init => k_is)
    (case a_stand_of => k_is)
    (case l_stand_of => k_is)
    (case c_stand_of => k_is)
    (case k_stand_of => k_is)
    (case a_law_barred => k_is)
    (case l_law_barred => k_is)
    (case c_law_barred => k_is)
    (case k_law_barred => k_is)
    (case a_law_sets => k_is)
    (case l_law_sets => k_is)
    (case c_law_sets => k_is)
    (case k_law_sets => k_is)
    (case a_is_rising => k_is)
    (case l_is_rising => k_is)
    (case c_is_rising => k_is)
    (case k_is_rising => k_is)
    (case a_is_set => k_is)
    (case l_is_set => k_is)
    (case c_is_set => k_is)
    (case k_is_set => k_is)
    (case a_Table_amount => k_is)
    (case i_Table_amount => k_is)
    (case l_Table_amount => k_is)
    (case c_Table_amount => k_is)
    (case k_Table_amount => k_is)
    (case a_law_share => k_is)
    (case l_law_share => k_is)
    (case c_law_share => k_is)
    (case k_law_share => k_is)
    (case a_law_right => k_is)
    (case l_law_right => k_is)
    (case c_law_right => k_is)
    (case k_law_right => k_is)
    (case a_law_odd_row => k_is)
    (case l_law_odd_row => k_is)
    (case c_law_odd_row => k_is)
    (case k_law_odd_row => k_is)
    (case a_law_names => k_is)
    (case l_law_names => k_is)
    (case c_law_names => k_is)
    (case k_law_names => k_is)
    (case a_law_rooms => k_is)
    (case l_law_rooms => k_is)
    (case c_law_rooms => k_is)
    (case k_law_rooms => k_is)
    (case a_law_kinds => k_is)
    (case l_law_kinds => k_is)
    (case c_law_kinds => k_is)
    (case k_law_kinds => k_is)
    (case a_law_place => k_is)
    (case l_law_place => k_is)
    (case c_law_place => k_is)
    (case k_law_place => k_is)
    (case a_law_bag => k_is)
    (case l_law_bag => k_is)
    (case c_law_bag => k_is)
    (case k_law_bag => k_is)
    (case a_law => k_is)
    (case l_law => k_is)
    (case c_law => k_is)
    (case k_law => k_is)
    (case xaC_NoBook => k_is)
    (case xL_NoBook => k_is)
    (case xsa_NoBook => k_is)
    (case xga_NoBook => k_is)
    (case xgg_NoBook => k_is)
    (case xf_NoBook => k_is)
    (case xg_NoBook => k_is)
    (case xi_NoBook => k_is)
    (case xti_NoBook => k_is)
    (case xl_NoBook => k_is)
    (case xc_NoBook => k_is)
    (case xk_NoBook => k_is)
    (case xkC_NoBook => k_is)
    (case xeC_NoBook => k_is)
    (case xtC_NoBook => k_is)
    (case xhC_NoBook => k_is)
    (case xsC_NoBook => first | rfl | k_is)
    (case xca_NoBook => k_is)
    (case xcn_NoBook => k_is)
    (case xct_NoBook0 => k_is)
    (case xcm_NoBook => k_is)
    (case xvV_NoBook => k_is)
    (case xb_NoBook_NoCount => k_is)
    (case ik_xNoBook_NoCount => kit_is)
    (case xb_NoBook_NoHouse => k_is)
    (case ik_xNoBook_NoHouse => kit_is)
    (case xb_NoBook_NoName => k_is)
    (case ik_xNoBook_NoName => kit_is)
    (case xb_NoBook_NoRow => k_is)
    (case ik_xNoBook_NoRow => kit_is)
    (case xb_NoBook_NoText => k_is)
    (case ik_xNoBook_NoText => kit_is)
    (case xb_NoBook_Taken => k_is)
    (case ik_xNoBook_Taken => kit_is)
    (case ik_xvNoBook => kit_is)
    (case ga_CAN => k_is)
    (case gl_CAN => k_is)
    (case gk_CAN => (repeat' first | exact trivial | refine ⟨⟨_, _, rfl, rfl⟩, ?_⟩))
    (case gs_CAN => first | rfl | k_is)
    (case gn_CAN_Lock => k_is)
    (case gt_CAN_unlock => k_is)
    (case gt_CAN_lock => k_is)
    (case ga_COUNTS => k_is)
    (case gl_COUNTS => k_is)
    (case gk_COUNTS => (repeat' first | exact trivial | refine ⟨⟨_, _, rfl, rfl⟩, ?_⟩))
    (case gs_COUNTS => first | rfl | k_is)
    (case gt_COUNTS_unlock => k_is)
    (case gt_COUNTS_lock => k_is)
    (case ga_PUT => k_is)
    (case gl_PUT => k_is)
    (case gk_PUT => (repeat' first | exact trivial | refine ⟨⟨_, _, rfl, rfl⟩, ?_⟩))
    (case gs_PUT => first | rfl | k_is)
    (case gt_PUT_unlock => k_is)
    (case gt_PUT_lock => k_is)
    (case q_MOST_AT_ONCE => k_is)
    (case z_ValueError => k_is)
    (case z_abs => k_is)
    (case z_all => k_is)
    (case z_any => k_is)
    (case z_bool => k_is)
    (case z_dict => k_is)
    (case z_enumerate => k_is)
    (case z_int => k_is)
    (case z_isinstance => k_is)
    (case z_len => k_is)
    (case z_list => k_is)
    (case z_max => k_is)
    (case z_min => k_is)
    (case z_range => k_is)
    (case z_repr => k_is)
    (case z_sorted => k_is)
    (case z_str => k_is)
    (case z_sum => k_is)
    (case z_tuple => k_is)
    (case z_zip => k_is)
#print axioms PySem.Challenge.cw_crowdpurse_k11_places_unlocked_and_locke_holds
