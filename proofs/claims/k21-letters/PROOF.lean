import PyProof.Rows.All
import Wide.All
import OpenK.AllK
import Wide.FinOn
import HandS.ForMost
import HandS.Evl
import HandS.IsInst
import HandS.TupAny
import HandS.Zip
import HandS.Walk
import HandS.Defaults
import HandS.Style
import HandS.Flow
import HandS.EndBits
import HandS.Wide
import HandS.Text
import HandS.Exc
import HandS.Iter
import KE.SortKeyHeap
import KE.DataCmp
import HandS.SortKw
import HandS.Deep
import HandS.DeepEq
import KE.DataEq
import HandS.Zip0
import HandS.Dict
import HandS.DictComp
import HandS.DictTup
import KE.GoesEnumKw
import KE.KEqDict
import PyProof.InstNe
import KE.RegKIsAll
import KE.GoesEnum
import KE.GoesZip
import KE.GoesMore
import PyProof.CollectIter
import PyProof.WalksMore
import KE.KTupSum
import HandS.TupMul
import HandS.Conv
import HandS.CallSlots
import HandS.ExcInit
import HandS.ExcField
import HandS.ExcIs
import HandS.WordsExc
import HandS.RaiseMore
import HandS.TryOnly
import HandS.More
import HandS.CallLocal
import HandS.MakeKwOnly
import HandS.TupSets
import HandS.SetTxt0
import HandS.Strs
import KE.KDictCopyH
import KE.KDictPairs
import KE.Datum
import KE.KDictList
import PyProof.DictValues
import PyProof.WalkInts
import PyProof.ReprRoads
import HandS.FStr
import HandS.ListItems
import KE.DataMinMax
import HandS.WordsDict
import KE.KDictItemsList
import HandS.OwnEq
import KE.RegKCallOwn
import PySem.Challenge.RW_crowdpurse_k21_letters
set_option Elab.async false
set_option linter.all false
set_option maxRecDepth 100000
set_option maxHeartbeats 4000000
/-! Dn: data (values without addresses), a memory of the few things that change, and what a text of the program makes of them, as plain functions -/
namespace Dn
open PySem L2 Evl

/-- data: what a value is, down to the innermost; ptr: a thing that may change, by its number; raw: anything else -/
inductive D where
  | non | bl (b : Bool) | int (i : Int) | str (s : Str)
  | lst (xs : List D) | tup (xs : List D) | dct (kvs : List (Key × D)) | dcT (kvs : List (List Key × D)) | ins (x : Str) (fs : List (Str × D)) | fn (x : Str) | scr (ns : List Int) | ptr (n : Nat) | raw (v : V)
/-- a thing that may change -/
inductive Ob where
  | lst (xs : List D) | dK (kvs : List (Key × D)) | dT (kvs : List (List Key × D)) | ins (x : Str) (fs : List (Str × D)) | gone
abbrev Mem := List Ob
abbrev Dv := List (Option D)
/-- an error: its class by name, its fields -/
structure Exc where
  cls : Str
  fs : List (Str × D)
/-- what comes: a value, an error, or nothing is said -/
inductive R (α : Type) where
  | ok (a : α) (m : Mem) | ex (e : Exc) (m : Mem) | no
def R.bind {α β : Type} : R α → (α → Mem → R β) → R β
  | .ok a m, k => k a m
  | .ex e m, _ => .ex e m
  | .no, _ => .no
/-- where no error may leave -/
def R.calm {α : Type} : R α → R α
  | .ok a m => .ok a m
  | _ => .no
def R.of {α : Type} (o : Option α) (m : Mem) : R α := match o with
  | some a => .ok a m
  | none => .no
@[simp] theorem R.bind_ok {α β : Type} (a : α) (m : Mem) (k : α → Mem → R β) : (R.ok a m).bind k = k a m := rfl
@[simp] theorem R.calm_ok {α : Type} (a : α) (m : Mem) : (R.ok a m).calm = .ok a m := rfl
/-! ### what stands for what -/
mutual
inductive Rp (K : PySem.W.Frag) (B : Hp) (ρ : List Addr) : D → V → Prop
  | non : Rp K B ρ .non .non
  | bl (b : Bool) : Rp K B ρ (.bl b) (.bl b)
  | int (i : Int) : Rp K B ρ (.int i) (.int i)
  | str (s : Str) : Rp K B ρ (.str s) (.str s)
  | lst {a : Addr} {vs : List V} {ds : List D} : B a = some (.lst vs) → Rps K B ρ ds vs → Rp K B ρ (.lst ds) (.ref a)
  | tup {a : Addr} {vs : List V} {ds : List D} : SqT K B a vs → Rps K B ρ ds vs → ((vs = [] ∨ ∃ y, D.fn y ∈ ds) ∨ B a = some (.tup vs)) → Rp K B ρ (.tup ds) (.ref a)
  | dct {a : Addr} {o : Obj} {kvs : List (Key × V)} {kds : List (Key × D)} : B a = some (.frz o (.dK kvs)) → Rpk K B ρ kds kvs → Rp K B ρ (.dct kds) (.ref a)
  | dcT {a : Addr} {o : Obj} {kvs : List (List Key × V)} {kds : List (List Key × D)} : B a = some (.frz o (.dT kvs)) → Rpt K B ρ kds kvs → Rp K B ρ (.dcT kds) (.ref a)
  | ins {a C dx : Addr} {x : Str} {gs : List (Str × V)} {fs : List (Str × D)} : PySem.W.nsIn K mainGlobals x = some (some (.ref C)) → B a = some (.ins C dx gs) → Rpf K B ρ fs gs → Rp K B ρ (.ins x fs) (.ref a)
  | fn {a : Addr} {x : Str} : PySem.W.nsIn K mainGlobals x = some (some (.ref a)) → Rp K B ρ (.fn x) (.ref a)
  | scr {a : Addr} {ns : List Int} : SqL K B a (ns.map V.int) → Rp K B ρ (.scr ns) (.ref a)
  | ptr {n : Nat} {a : Addr} : ρ[n]? = some a → Rp K B ρ (.ptr n) (.ref a)
  | raw (v : V) : Rp K B ρ (.raw v) v
inductive Rps (K : PySem.W.Frag) (B : Hp) (ρ : List Addr) : List D → List V → Prop
  | nil : Rps K B ρ [] []
  | cons {d : D} {v : V} {ds : List D} {vs : List V} : Rp K B ρ d v → Rps K B ρ ds vs → Rps K B ρ (d :: ds) (v :: vs)
inductive Rpk (K : PySem.W.Frag) (B : Hp) (ρ : List Addr) : List (Key × D) → List (Key × V) → Prop
  | nil : Rpk K B ρ [] []
  | cons {k : Key} {d : D} {v : V} {ds : List (Key × D)} {vs : List (Key × V)} : Rp K B ρ d v → Rpk K B ρ ds vs → Rpk K B ρ ((k, d) :: ds) ((k, v) :: vs)
inductive Rpt (K : PySem.W.Frag) (B : Hp) (ρ : List Addr) : List (List Key × D) → List (List Key × V) → Prop
  | nil : Rpt K B ρ [] []
  | cons {k : List Key} {d : D} {v : V} {ds : List (List Key × D)} {vs : List (List Key × V)} : Rp K B ρ d v → Rpt K B ρ ds vs → Rpt K B ρ ((k, d) :: ds) ((k, v) :: vs)
inductive Rpf (K : PySem.W.Frag) (B : Hp) (ρ : List Addr) : List (Str × D) → List (Str × V) → Prop
  | nil : Rpf K B ρ [] []
  | cons {k : Str} {d : D} {v : V} {ds : List (Str × D)} {vs : List (Str × V)} : Rp K B ρ d v → Rpf K B ρ ds vs → Rpf K B ρ ((k, d) :: ds) ((k, v) :: vs)
end
/-- more is known -/
def Le (B : Hp) (ρ : List Addr) (B' : Hp) (ρ' : List Addr) : Prop := Ex B B' ∧ ∃ z, ρ' = ρ ++ z
theorem Le.refl (B : Hp) (ρ : List Addr) : Le B ρ B ρ := ⟨Ex.refl B, [], by simp⟩
theorem Le.trans {B B1 B2 : Hp} {ρ ρ1 ρ2 : List Addr} (a : Le B ρ B1 ρ1) (b : Le B1 ρ1 B2 ρ2) : Le B ρ B2 ρ2 := by
  obtain ⟨e, z, rfl⟩ := a
  obtain ⟨e', z', rfl⟩ := b
  exact ⟨e.trans e', z ++ z', by simp⟩
theorem Le.at {B B1 : Hp} {ρ ρ1 : List Addr} (a : Le B ρ B1 ρ1) {n : Nat} {x : Addr} (h : ρ[n]? = some x) : ρ1[n]? = some x := by
  obtain ⟨_, z, rfl⟩ := a
  have hl := (List.getElem?_eq_some_iff.mp h).1
  rw [List.getElem?_append_left hl]
  exact h
section
variable {K : PySem.W.Frag} {B B' : Hp} {ρ ρ' : List Addr}
mutual
theorem Rp.mono (l : Le B ρ B' ρ') : ∀ {d : D} {v : V}, Rp K B ρ d v → Rp K B' ρ' d v
  | _, _, .non => .non
  | _, _, .bl b => .bl b
  | _, _, .int i => .int i
  | _, _, .str s => .str s
  | _, _, .lst h r => .lst (l.1 _ _ h) (Rps.mono l r)
  | _, _, .scr h => .scr (ex_l l.1 h)
  | _, _, .tup h r z => .tup (ex_t l.1 h) (Rps.mono l r) (z.imp id fun q => l.1 _ _ q)
  | _, _, .dct h r => .dct (l.1 _ _ h) (Rpk.mono l r)
  | _, _, .dcT h r => .dcT (l.1 _ _ h) (Rpt.mono l r)
  | _, _, .ins c h r => .ins c (l.1 _ _ h) (Rpf.mono l r)
  | _, _, .fn c => .fn c
  | _, _, .ptr h => .ptr (l.at h)
  | _, _, .raw v => .raw v
theorem Rps.mono (l : Le B ρ B' ρ') : ∀ {ds : List D} {vs : List V}, Rps K B ρ ds vs → Rps K B' ρ' ds vs
  | _, _, .nil => .nil
  | _, _, .cons h t => .cons (Rp.mono l h) (Rps.mono l t)
theorem Rpk.mono (l : Le B ρ B' ρ') : ∀ {ds : List (Key × D)} {vs : List (Key × V)}, Rpk K B ρ ds vs → Rpk K B' ρ' ds vs
  | _, _, .nil => .nil
  | _, _, .cons h t => .cons (Rp.mono l h) (Rpk.mono l t)
theorem Rpt.mono (l : Le B ρ B' ρ') : ∀ {ds : List (List Key × D)} {vs : List (List Key × V)}, Rpt K B ρ ds vs → Rpt K B' ρ' ds vs
  | _, _, .nil => .nil
  | _, _, .cons h t => .cons (Rp.mono l h) (Rpt.mono l t)
theorem Rpf.mono (l : Le B ρ B' ρ') : ∀ {ds : List (Str × D)} {vs : List (Str × V)}, Rpf K B ρ ds vs → Rpf K B' ρ' ds vs
  | _, _, .nil => .nil
  | _, _, .cons h t => .cons (Rp.mono l h) (Rpf.mono l t)
end
/-- the same, pair by pair -/
abbrev PrD {κ : Type} (K : PySem.W.Frag) (B : Hp) (ρ : List Addr) : κ × D → κ × V → Prop := fun p q => p.1 = q.1 ∧ Rp K B ρ p.2 q.2
theorem Rpk.prs : ∀ {ds : List (Key × D)} {vs : List (Key × V)}, Rpk K B ρ ds vs → Paired (PrD K B ρ) ds vs
  | _, _, .nil => .nil
  | _, _, .cons h t => .cons ⟨rfl, h⟩ t.prs
theorem Rpt.prs : ∀ {ds : List (List Key × D)} {vs : List (List Key × V)}, Rpt K B ρ ds vs → Paired (PrD K B ρ) ds vs
  | _, _, .nil => .nil
  | _, _, .cons h t => .cons ⟨rfl, h⟩ t.prs
theorem Rpf.prs : ∀ {ds : List (Str × D)} {vs : List (Str × V)}, Rpf K B ρ ds vs → Paired (PrD K B ρ) ds vs
  | _, _, .nil => .nil
  | _, _, .cons h t => .cons ⟨rfl, h⟩ t.prs
theorem rpt_of : ∀ {ds : List (List Key × D)} {vs : List (List Key × V)}, Paired (PrD K B ρ) ds vs → Rpt K B ρ ds vs
  | _, _, .nil => .nil
  | (_, _) :: _, (_, _) :: _, .cons ⟨e, h⟩ t => by
    cases e
    exact .cons h (rpt_of t)
theorem rpf_of : ∀ {ds : List (Str × D)} {vs : List (Str × V)}, Paired (PrD K B ρ) ds vs → Rpf K B ρ ds vs
  | _, _, .nil => .nil
  | (_, _) :: _, (_, _) :: _, .cons ⟨e, h⟩ t => by
    cases e
    exact .cons h (rpf_of t)
theorem Rps.len : ∀ {ds : List D} {vs : List V}, Rps K B ρ ds vs → ds.length = vs.length
  | _, _, .nil => rfl
  | _, _, .cons _ t => by rw [List.length_cons, List.length_cons, t.len]
theorem Rps.get : ∀ {ds : List D} {vs : List V} {i : Nat} {d : D}, Rps K B ρ ds vs → ds[i]? = some d → ∃ v, vs[i]? = some v ∧ Rp K B ρ d v
  | _, _, _, _, .nil, e => by simp at e
  | _, _, 0, _, .cons h _, e => by simp at e; subst e; exact ⟨_, rfl, h⟩
  | _, _, i + 1, d, .cons _ t, e => by
    obtain ⟨v, h1, h2⟩ := t.get (i := i) (d := d) (by simpa using e)
    exact ⟨v, by simpa using h1, h2⟩
theorem Rps.getV : ∀ {ds : List D} {vs : List V} {i : Nat} {v : V}, Rps K B ρ ds vs → vs[i]? = some v → ∃ d, ds[i]? = some d ∧ Rp K B ρ d v
  | _, _, _, _, .nil, e => by simp at e
  | _, _, 0, _, .cons h _, e => by simp at e; subst e; exact ⟨_, rfl, h⟩
  | _, _, i + 1, v, .cons _ t, e => by
    obtain ⟨d, h1, h2⟩ := t.getV (i := i) (v := v) (by simpa using e)
    exact ⟨d, by simpa using h1, h2⟩
theorem Rps.app : ∀ {ds es : List D} {vs us : List V}, Rps K B ρ ds vs → Rps K B ρ es us → Rps K B ρ (ds ++ es) (vs ++ us)
  | _, _, _, _, .nil, s => s
  | _, _, _, _, .cons h t, s => .cons h (t.app s)
theorem Rps.take : ∀ {ds : List D} {vs : List V} (n : Nat), Rps K B ρ ds vs → Rps K B ρ (ds.take n) (vs.take n)
  | _, _, 0, _ => by simp; exact .nil
  | _, _, _ + 1, .nil => by simp; exact .nil
  | _, _, n + 1, .cons h t => by simp; exact .cons h (t.take n)
theorem Rps.drop : ∀ {ds : List D} {vs : List V} (n : Nat), Rps K B ρ ds vs → Rps K B ρ (ds.drop n) (vs.drop n)
  | _, _, 0, r => by simpa using r
  | _, _, _ + 1, .nil => by simp; exact .nil
  | _, _, n + 1, .cons h t => by simp; exact t.drop n
theorem Rps.set : ∀ {ds : List D} {vs : List V} {d : D} {v : V} (n : Nat), Rps K B ρ ds vs → Rp K B ρ d v → Rps K B ρ (ds.set n d) (vs.set n v)
  | _, _, _, _, _, .nil, _ => .nil
  | _, _, _, _, 0, .cons _ t, h => .cons h t
  | _, _, _, _, n + 1, .cons g t, h => .cons g (t.set n h)
theorem Rps.snoc {ds : List D} {vs : List V} {d : D} {v : V} (r : Rps K B ρ ds vs) (h : Rp K B ρ d v) : Rps K B ρ (ds ++ [d]) (vs ++ [v]) := r.app (.cons h .nil)
theorem Rps.rev : ∀ {ds : List D} {vs : List V}, Rps K B ρ ds vs → Rps K B ρ ds.reverse vs.reverse
  | _, _, .nil => .nil
  | _, _, .cons h t => by
    rw [List.reverse_cons, List.reverse_cons]
    exact t.rev.snoc h
end

/-! ### the memory -/
def ObR (K : PySem.W.Frag) (B : Hp) (ρ : List Addr) (H : Hp) (a : Addr) : Ob → Prop
  | .lst ds => ∃ vs, H a = some (.lst vs) ∧ Rps K B ρ ds vs
  | .dK kds => ∃ kvs, H a = some (.dK kvs) ∧ Rpk K B ρ kds kvs
  | .dT kds => ∃ kvs : List (List Key × V), H a = some (.dT kvs) ∧ Paired (fun (p : List Key × D) (q : List Key × V) => p.1 = q.1 ∧ Rp K B ρ p.2 q.2) kds kvs
  | .ins x fs => ∃ (C dx : Addr) (gs : List (Str × V)), PySem.W.nsIn K mainGlobals x = some (some (.ref C)) ∧ H a = some (.ins C dx gs) ∧ Paired (fun (p : Str × D) (q : Str × V) => p.1 = q.1 ∧ Rp K B ρ p.2 q.2) fs gs
  | .gone => ∃ o, H a = some o
theorem ObR.there {K : PySem.W.Frag} {B H : Hp} {ρ : List Addr} {a : Addr} {o : Ob} (r : ObR K B ρ H a o) : ∃ u, H a = some u := by
  cases o with
  | lst ds => obtain ⟨_, h, _⟩ := r; exact ⟨_, h⟩
  | dK ds => obtain ⟨_, h, _⟩ := r; exact ⟨_, h⟩
  | dT ds => obtain ⟨_, h, _⟩ := r; exact ⟨_, h⟩
  | ins C fs => obtain ⟨_, _, _, _, h, _⟩ := r; exact ⟨_, h⟩
  | gone => exact r
theorem ObR.mono {K : PySem.W.Frag} {B B' H H' : Hp} {ρ ρ' : List Addr} {a : Addr} {o : Ob} (l : Le B ρ B' ρ') (e : ∀ u, H a = some u → H' a = some u) (r : ObR K B ρ H a o) : ObR K B' ρ' H' a o := by
  cases o with
  | lst ds => obtain ⟨vs, h, q⟩ := r; exact ⟨vs, e _ h, q.mono l⟩
  | dK ds => obtain ⟨vs, h, q⟩ := r; exact ⟨vs, e _ h, q.mono l⟩
  | dT ds => obtain ⟨vs, h, q⟩ := r; exact ⟨vs, e _ h, Paired.mapP q fun _ _ z => ⟨z.1, z.2.mono l⟩⟩
  | ins x fs => obtain ⟨C, dx, gs, hc, h, q⟩ := r; exact ⟨C, dx, gs, hc, e _ h, Paired.mapP q fun _ _ z => ⟨z.1, z.2.mono l⟩⟩
  | gone => obtain ⟨u, h⟩ := r; exact ⟨u, e _ h⟩
/-- a locked thing -/
def isFrz : HO → Bool
  | .frz _ _ => true
  | _ => false
structure MR (K : PySem.W.Frag) (F B : Hp) (ρ : List Addr) (M : Mem) (H : Hp) : Prop where
  ex : Ex B H
  fr : Ex F H
  dj : ∀ a o, F a = some o → B a = none ∧ ∀ n : Nat, ρ[n]? = some a → isFrz o = true ∧ M[n]? = some .gone
  len : ρ.length = M.length
  nd : ρ.Nodup
  ob : ∀ (n : Nat) (o : Ob), M[n]? = some o → ∃ a, ρ[n]? = some a ∧ (o ≠ .gone → B a = none) ∧ ObR K B ρ H a o
  nt : ∀ a ys, F a ≠ some (.tup ys)
section
variable {K : PySem.W.Frag} {F B H : Hp} {ρ : List Addr} {M : Mem}
theorem MR.there (m : MR K F B ρ M H) {n : Nat} {a : Addr} (h : ρ[n]? = some a) : ∃ u, H a = some u := by
  have hl := (List.getElem?_eq_some_iff.mp h).1
  have hm : M[n]? = some (M[n]'(by rw [← m.len]; exact hl)) := List.getElem?_eq_getElem _
  obtain ⟨b, hb, _, r⟩ := m.ob n _ hm
  rw [h] at hb
  cases hb
  exact r.there
theorem MR.dj' (m : MR K F B ρ M H) {a : Addr} {o : HO} (e : F a = some o) (h : isFrz o = false) : B a = none ∧ a ∉ ρ := ⟨(m.dj a o e).1, fun z => by
  obtain ⟨n, hn⟩ := List.getElem?_of_mem z
  have := ((m.dj a o e).2 n hn).1
  rw [h] at this
  cases this⟩
theorem MR.dj_set (m : MR K F B ρ M H) {n : Nat} {old ob : Ob} (hm : M[n]? = some old) (hg : old ≠ .gone) : ∀ a o, F a = some o → B a = none ∧ ∀ k : Nat, ρ[k]? = some a → isFrz o = true ∧ (M.set n ob)[k]? = some .gone := fun a o e => ⟨(m.dj a o e).1, fun k hk => by
  obtain ⟨h1, h2⟩ := (m.dj a o e).2 k hk
  refine ⟨h1, ?_⟩
  by_cases q : n = k
  · subst q
    rw [hm] at h2
    exact absurd (Option.some.inj h2) hg
  · rw [List.getElem?_set_ne q]
    exact h2⟩
theorem MR.nef (m : MR K F B ρ M H) {n : Nat} {a b : Addr} {old : Ob} {u : HO} (ha : ρ[n]? = some a) (hm : M[n]? = some old) (hg : old ≠ .gone) (e : F b = some u) : b ≠ a := fun z => by
  have q := ((m.dj b u e).2 n (by rw [z]; exact ha)).2
  rw [hm] at q
  exact hg (Option.some.inj q)
theorem MR.notin (m : MR K F B ρ M H) {p : Addr} (hp : H p = none) : p ∉ ρ := fun hm => by
  obtain ⟨n, h⟩ := List.getElem?_of_mem hm
  obtain ⟨u, e⟩ := m.there h
  rw [hp] at e
  cases e
/-- a new thing that stays as it is -/
theorem MR.new (m : MR K F B ρ M H) {p : Addr} {o : HO} (hp : H p = none) : MR K F (upd B p o) ρ M (upd H p o) ∧ Le B ρ (upd B p o) ρ := by
  have hb : B p = none := fresh_back m.ex hp
  have l : Le B ρ (upd B p o) ρ := ⟨Ex.new hb, [], by simp⟩
  refine ⟨⟨fun a u e => ?_, fun a u e => ?_, fun a u e => ?_, m.len, m.nd, fun n ob h => ?_, m.nt⟩, l⟩
  · by_cases q : a = p
    · subst q
      rw [upd_same] at e ⊢
      exact e
    · rw [upd_ne q] at e ⊢
      exact m.ex a u e
  · rw [upd_ne (ne_of_none (m.fr a u e) hp)]
    exact m.fr a u e
  · rw [upd_ne (ne_of_none (m.fr a u e) hp)]
    exact m.dj a u e
  · obtain ⟨a, ha, hB, r⟩ := m.ob n ob h
    obtain ⟨u, hu⟩ := r.there
    have na : a ≠ p := ne_of_none hu hp
    exact ⟨a, ha, fun z => by rw [upd_ne na]; exact hB z, r.mono l fun w q => by rw [upd_ne na]; exact q⟩
/-- a heap that has more -/
theorem MR.more (m : MR K F B ρ M H) {H' : Hp} (e : Ex H H') : MR K F B ρ M H' :=
  ⟨m.ex.trans e, m.fr.trans e, m.dj, m.len, m.nd, fun n ob h => by
    obtain ⟨a, ha, hB, r⟩ := m.ob n ob h
    exact ⟨a, ha, hB, r.mono (Le.refl _ _) fun w q => e a w q⟩, m.nt⟩
/-- a new thing that may change -/
theorem MR.alloc (m : MR K F B ρ M H) {p : Addr} {o : HO} {ob : Ob} (hp : H p = none) (r : ObR K B (ρ ++ [p]) (upd H p o) p ob) : MR K F B (ρ ++ [p]) (M ++ [ob]) (upd H p o) ∧ Le B ρ B (ρ ++ [p]) := by
  have hb : B p = none := fresh_back m.ex hp
  have l : Le B ρ B (ρ ++ [p]) := ⟨Ex.refl B, [p], rfl⟩
  refine ⟨⟨fun a u e => ?_, fun a u e => ?_, fun a u e => ?_, by simp [m.len], ?_, fun n o' h => ?_, m.nt⟩, l⟩
  · rw [upd_ne (ne_of_none e hb)]
    exact m.ex a u e
  · rw [upd_ne (ne_of_none (m.fr a u e) hp)]
    exact m.fr a u e
  · refine ⟨(m.dj a u e).1, fun k hk => ?_⟩
    by_cases hn : k < ρ.length
    · rw [List.getElem?_append_left hn] at hk
      obtain ⟨h1, h2⟩ := (m.dj a u e).2 k hk
      exact ⟨h1, by rw [List.getElem?_append_left (by rw [← m.len]; exact hn)]; exact h2⟩
    · have hz : a = p := by
        have hl := (List.getElem?_eq_some_iff.mp hk).1
        rw [List.getElem?_append_right (by omega)] at hk
        have e0 : k - ρ.length = 0 := by simp at hl; omega
        rw [e0] at hk
        simpa using hk.symm
      exact absurd hz (ne_of_none (m.fr a u e) hp)
  · rw [List.nodup_append]
    refine ⟨m.nd, by simp, fun a ha b hb' => ?_⟩
    simp at hb'
    subst hb'
    exact fun e => m.notin hp (e ▸ ha)
  · by_cases hn : n < M.length
    · rw [List.getElem?_append_left hn] at h
      obtain ⟨a, ha, hB, q⟩ := m.ob n o' h
      obtain ⟨u, hu⟩ := q.there
      have na : a ≠ p := ne_of_none hu hp
      exact ⟨a, l.at ha, hB, q.mono l fun w z => by rw [upd_ne na]; exact z⟩
    · rw [List.getElem?_append_right (by omega)] at h
      have hz : n - M.length = 0 := by
        have := (List.getElem?_eq_some_iff.mp h).1
        simp at this
        omega
      rw [hz] at h
      simp at h
      subst h
      have en : n = ρ.length := by rw [m.len]; omega
      exact ⟨p, by rw [en]; simp, fun _ => hb, r⟩
/-- a thing changed -/
theorem MR.put (m : MR K F B ρ M H) {n : Nat} {a : Addr} {o : HO} {ob old : Ob} (ha : ρ[n]? = some a) (ho : M[n]? = some old) (hg : old ≠ .gone) (r : ObR K B ρ (upd H a o) a ob) : MR K F B ρ (M.set n ob) (upd H a o) := by
  have hB : B a = none := by
    obtain ⟨b, hb, q, _⟩ := m.ob n old ho
    rw [ha] at hb
    cases hb
    exact q hg
  refine ⟨fun b u e => ?_, fun b u e => ?_, m.dj_set ho hg, by simp [m.len], m.nd, fun k o' h => ?_, m.nt⟩
  · rw [upd_ne (ne_of_none e hB)]
    exact m.ex b u e
  · have nb : b ≠ a := m.nef ha ho hg e
    rw [upd_ne nb]
    exact m.fr b u e
  · by_cases hk : k = n
    · subst hk
      have hl := (List.getElem?_eq_some_iff.mp ho).1
      rw [List.getElem?_set_self hl] at h
      cases h
      exact ⟨a, ha, fun _ => hB, r⟩
    · rw [List.getElem?_set_ne (Ne.symm hk)] at h
      obtain ⟨b, hb, hq, q⟩ := m.ob k o' h
      have nb : b ≠ a := fun e => by
        subst e
        exact hk (nodup_ix' m.nd hb ha)
      exact ⟨b, hb, hq, q.mono (Le.refl _ _) fun w z => by rw [upd_ne nb]; exact z⟩
where
  nodup_ix' {N : List Addr} (hN : N.Nodup) {i j : Nat} {x : Addr} (a : N[i]? = some x) (b : N[j]? = some x) : i = j := by
    obtain ⟨h1, e1⟩ := List.getElem?_eq_some_iff.mp a
    obtain ⟨h2, e2⟩ := List.getElem?_eq_some_iff.mp b
    exact (List.getElem_inj hN).mp (e1.trans e2.symm)
end

/-- a thing that changes no more -/
theorem MR.freeze {K : PySem.W.Frag} {F B H : Hp} {ρ : List Addr} {M : Mem} (m : MR K F B ρ M H) {n : Nat} {a : Addr} {o : HO} {ob : Ob} (ha : ρ[n]? = some a) (hm : M[n]? = some ob) (hg : ob ≠ .gone) (hH : H a = some o) : MR K F (upd B a o) ρ (M.set n .gone) H ∧ Le B ρ (upd B a o) ρ := by
  have hB : B a = none := by
    obtain ⟨b, hb, q, _⟩ := m.ob n ob hm
    rw [ha] at hb
    cases hb
    exact q hg
  have l : Le B ρ (upd B a o) ρ := ⟨Ex.new hB, [], by simp⟩
  refine ⟨⟨fun b u e => ?_, m.fr, fun b u e => ?_, by simp [m.len], m.nd, fun k o' h => ?_, m.nt⟩, l⟩
  · by_cases q : b = a
    · subst q
      rw [upd_same] at e
      cases e
      exact hH
    · rw [upd_ne q] at e
      exact m.ex b u e
  · have nb : b ≠ a := m.nef ha hm hg e
    rw [upd_ne nb]
    exact m.dj_set hm hg b u e
  · by_cases hk : k = n
    · subst hk
      have hl := (List.getElem?_eq_some_iff.mp hm).1
      rw [List.getElem?_set_self hl] at h
      cases h
      exact ⟨a, ha, fun z => absurd rfl z, o, hH⟩
    · rw [List.getElem?_set_ne (Ne.symm hk)] at h
      obtain ⟨b, hb, hq, q⟩ := m.ob k o' h
      have nb : b ≠ a := fun e => by
        subst e
        exact hk (MR.put.nodup_ix' m.nd hb ha)
      exact ⟨b, hb, fun z => by rw [upd_ne nb]; exact hq z, q.mono l fun w z => z⟩
/-- what is told of a thing, otherwise -/
theorem MR.retell {K : PySem.W.Frag} {F B H : Hp} {ρ : List Addr} {M : Mem} (m : MR K F B ρ M H) {n : Nat} {a : Addr} {ob old : Ob} (ha : ρ[n]? = some a) (hm : M[n]? = some old) (hg : old ≠ .gone) (r : ObR K B ρ H a ob) : MR K F B ρ (M.set n ob) H := by
  refine ⟨m.ex, m.fr, m.dj_set hm hg, by simp [m.len], m.nd, fun k o' h => ?_, m.nt⟩
  by_cases hk : k = n
  · subst hk
    have hl := (List.getElem?_eq_some_iff.mp hm).1
    rw [List.getElem?_set_self hl] at h
    cases h
    obtain ⟨b, hb, q, _⟩ := m.ob k old hm
    rw [ha] at hb
    cases hb
    exact ⟨a, ha, fun _ => q hg, r⟩
  · rw [List.getElem?_set_ne (Ne.symm hk)] at h
    exact m.ob k o' h
theorem ObR.notup {K : PySem.W.Frag} {B H : Hp} {ρ : List Addr} {a : Addr} {o : Ob} {ys : List V} (r : ObR K B ρ H a o) (h : H a = some (.tup ys)) : o = .gone := by
  cases o with
  | lst ds => obtain ⟨_, e, _⟩ := r; rw [h] at e; cases e
  | dK ds => obtain ⟨_, e, _⟩ := r; rw [h] at e; cases e
  | dT ds => obtain ⟨_, e, _⟩ := r; rw [h] at e; cases e
  | ins C fs => obtain ⟨_, _, _, _, e, _⟩ := r; rw [h] at e; cases e
  | gone => rfl
/-- a tuple that stands is known from now on -/
theorem MR.know {K : PySem.W.Frag} {F B H : Hp} {ρ : List Addr} {M : Mem} (m : MR K F B ρ M H) {b : Addr} {ys : List V} (hb : H b = some (.tup ys)) : ∃ B', Le B ρ B' ρ ∧ MR K F B' ρ M H ∧ B' b = some (.tup ys) := by
  cases hB : B b with
  | some o =>
    have := m.ex b o hB
    rw [hb] at this
    cases this
    exact ⟨B, Le.refl _ _, m, hB⟩
  | none =>
    have l : Le B ρ (upd B b (.tup ys)) ρ := ⟨Ex.new hB, [], by simp⟩
    refine ⟨_, l, ⟨fun a u e => ?_, m.fr, fun a u e => ?_, m.len, m.nd, fun n ob h => ?_, m.nt⟩, upd_same⟩
    · by_cases q : a = b
      · subst q
        rw [upd_same] at e
        cases e
        exact hb
      · rw [upd_ne q] at e
        exact m.ex a u e
    · have na : a ≠ b := fun z => by
        subst z
        have := m.fr a u e
        rw [hb] at this
        cases this
        exact m.nt a ys e
      rw [upd_ne na]
      exact m.dj a u e
    · obtain ⟨a, ha, hq, r⟩ := m.ob n ob h
      refine ⟨a, ha, fun z => ?_, r.mono l fun w q => q⟩
      have na : a ≠ b := fun e => by
        subst e
        exact z (r.notup hb)
      rw [upd_ne na]
      exact hq z
/-- freeze it -/
def frz (M : Mem) : D → Option (D × Mem)
  | .ptr n => match M[n]? with
    | some (.lst ds) => some (.lst ds, M.set n .gone)
    | some (.dK k) => some (.dct k, M.set n .gone)
    | some (.dT k) => some (.dcT k, M.set n .gone)
    | some (.ins x fs) => some (.ins x fs, M.set n .gone)
    | _ => none
  | d => some (d, M)
/-- what holds behind some locking -/
inductive Lks (R : Hp → Prop) : Hp → Prop
  | here {H : Hp} : R H → Lks R H
  | lock {H : Hp} {d : Addr} {u : HO} : H d = some u → Mut (some u) → (∀ od, Lks R (upd H d (.frz od u))) → Lks R H
theorem Lks.bind {R R' : Hp → Prop} {H : Hp} (h : Lks R H) (k : ∀ H', R H' → Lks R' H') : Lks R' H := by
  induction h with
  | here r => exact k _ r
  | lock e m _ ih => exact .lock e m ih
theorem pe_locks {X : Cx} {e : Expr} {t : TE} (h : PE X e t) : PE X e (fun σ H Q => t σ H fun v H1 => Lks (Q v) H1) := by
  refine ⟨fun pins s σ H Q I hw => ?_⟩
  refine thn (h.run pins s σ H _ I hw) fun v s1 ⟨x, H1, I1, r, q⟩ => ?_
  induction q with
  | here q => exact ⟨x, _, I1, r, q⟩
  | lock e m _ ih =>
    obtain ⟨od, I2⟩ := I1.lock e m
    exact ih od I2
/-- a dict that changes no more is locked -/
theorem MR.lock {K : PySem.W.Frag} {F B H : Hp} {ρ : List Addr} {M : Mem} (m : MR K F B ρ M H) {n : Nat} {a : Addr} {o o' : HO} {ob : Ob} (ha : ρ[n]? = some a) (hm : M[n]? = some ob) (hg : ob ≠ .gone) (hH : H a = some o) : MR K F (upd B a o') ρ (M.set n .gone) (upd H a o') ∧ Le B ρ (upd B a o') ρ := by
  have m1 : MR K F B ρ (M.set n .gone) (upd H a o') := m.put ha hm hg ⟨o', upd_same⟩
  have hB : B a = none := by
    obtain ⟨b, hb, q, _⟩ := m.ob n ob hm
    rw [ha] at hb
    cases hb
    exact q hg
  have l : Le B ρ (upd B a o') ρ := ⟨Ex.new hB, [], by simp⟩
  refine ⟨⟨fun b u e => ?_, m1.fr, fun b u e => ?_, m1.len, m1.nd, fun k ob' h => ?_, m1.nt⟩, l⟩
  · by_cases q : b = a
    · subst q
      rw [upd_same] at e ⊢
      exact e
    · rw [upd_ne q] at e
      exact m1.ex b u e
  · have nb : b ≠ a := m.nef ha hm hg e
    rw [upd_ne nb]
    exact m1.dj b u e
  · by_cases hk : k = n
    · subst hk
      have hl := (List.getElem?_eq_some_iff.mp hm).1
      rw [List.getElem?_set_self hl] at h
      cases h
      exact ⟨a, ha, fun z => absurd rfl z, o', upd_same⟩
    · obtain ⟨b, hb, hq, q⟩ := m1.ob k ob' h
      have nb : b ≠ a := fun e => by
        subst e
        exact hk (MR.put.nodup_ix' m.nd hb ha)
      exact ⟨b, hb, fun z => by rw [upd_ne nb]; exact hq z, q.mono l fun w z => z⟩
theorem frz_snd {K : PySem.W.Frag} {F B H : Hp} {ρ : List Addr} {M M' : Mem} (m : MR K F B ρ M H) {d d' : D} {v : V} (r : Rp K B ρ d v) (h : frz M d = some (d', M')) :
    Lks (fun H' => ∃ B', Le B ρ B' ρ ∧ MR K F B' ρ M' H' ∧ Rp K B' ρ d' v ∧ ∀ b C dx gs, H b = some (.ins C dx gs) → H' b = some (.ins C dx gs)) H := by
  have same : some (d, M) = some (d', M') → Lks (fun H' => ∃ B', Le B ρ B' ρ ∧ MR K F B' ρ M' H' ∧ Rp K B' ρ d' v ∧ ∀ b C dx gs, H b = some (.ins C dx gs) → H' b = some (.ins C dx gs)) H := fun e => by
    cases e
    exact .here ⟨B, Le.refl _ _, m, r, fun _ _ _ _ h => h⟩
  cases r with
  | @ptr n a ha =>
    unfold frz at h
    dsimp only at h
    split at h
    · next ds hm =>
      cases h
      obtain ⟨b, hb, _, vs, e, q⟩ := m.ob n _ hm
      rw [ha] at hb; cases hb
      obtain ⟨m', l⟩ := m.freeze ha hm (by intro z; cases z) e
      exact .here ⟨_, l, m', .lst upd_same (q.mono l), fun _ _ _ _ h => h⟩
    · next ds hm =>
      cases h
      obtain ⟨b, hb, _, vs, e, q⟩ := m.ob n _ hm
      rw [ha] at hb; cases hb
      refine .lock e trivial fun od => .here ?_
      obtain ⟨m', l⟩ := m.lock (o' := .frz od (.dK vs)) ha hm (by intro z; cases z) e
      exact ⟨_, l, m', .dct upd_same (q.mono l), fun b C dx gs hb => by rw [upd_ne (ne_of hb e (by intro z; cases z))]; exact hb⟩
    · next ds hm =>
      cases h
      obtain ⟨b, hb, _, vs, e, q⟩ := m.ob n _ hm
      rw [ha] at hb; cases hb
      refine .lock e trivial fun od => .here ?_
      obtain ⟨m', l⟩ := m.lock (o' := .frz od (.dT vs)) ha hm (by intro z; cases z) e
      exact ⟨_, l, m', .dcT upd_same ((rpt_of q).mono l), fun b C dx gs hb => by rw [upd_ne (ne_of hb e (by intro z; cases z))]; exact hb⟩
    · next x fs hm =>
      cases h
      obtain ⟨b, hb, _, C, dx, gs, hc, e, q⟩ := m.ob n _ hm
      rw [ha] at hb; cases hb
      obtain ⟨m', l⟩ := m.freeze ha hm (by intro z; cases z) e
      exact .here ⟨_, l, m', .ins hc upd_same ((rpf_of q).mono l), fun _ _ _ _ h => h⟩
    · cases h
  | _ => exact same h

/-! ### the slots -/
structure ER (K : PySem.W.Frag) (B : Hp) (ρ : List Addr) (η : Dv) (σ : L2.St) : Prop where
  len : η.length = σ.length
  at' : ∀ (i : Nat) (d : D), η[i]? = some (some d) → ∃ v, σ[i]? = some (some v) ∧ Rp K B ρ d v
section
variable {K : PySem.W.Frag} {B B' : Hp} {ρ ρ' : List Addr} {η : Dv} {σ : L2.St}
theorem ER.mono (l : Le B ρ B' ρ') (e : ER K B ρ η σ) : ER K B' ρ' η σ := ⟨e.len, fun i d h => let ⟨v, h1, h2⟩ := e.at' i d h; ⟨v, h1, h2.mono l⟩⟩
theorem ER.set (e : ER K B ρ η σ) (i : Nat) {d : D} {v : V} (r : Rp K B ρ d v) : ER K B ρ (η.set i (some d)) (σ.set i (some v)) := by
  refine ⟨by simp [e.len], fun j c h => ?_⟩
  by_cases hj : j = i
  · subst hj
    have hl : j < η.length := by
      have := (List.getElem?_eq_some_iff.mp h).1
      simpa using this
    rw [List.getElem?_set_self hl] at h
    cases h
    exact ⟨v, List.getElem?_set_self (by rw [← e.len]; exact hl), r⟩
  · rw [List.getElem?_set_ne (Ne.symm hj)] at h
    obtain ⟨u, h1, h2⟩ := e.at' j c h
    exact ⟨u, by rw [List.getElem?_set_ne (Ne.symm hj)]; exact h1, h2⟩
/-- slots forgotten -/
def wipeD (η : Dv) : List Nat → Dv
  | [] => η
  | v :: vs => (wipeD η vs).set v none
theorem ER.wipe (e : ER K B ρ η σ) : ∀ vs : List Nat, ER K B ρ (wipeD η vs) (L2.wipe σ vs)
  | [] => e
  | v :: vs => by
    have ih := e.wipe vs
    refine ⟨by show ((wipeD η vs).set v none).length = ((L2.wipe σ vs).set v none).length; simp [ih.len], fun j c h => ?_⟩
    have h : ((wipeD η vs).set v none)[j]? = some (some c) := h
    show ∃ u, ((L2.wipe σ vs).set v none)[j]? = some (some u) ∧ _
    by_cases hj : j = v
    · subst hj
      have hl : j < (wipeD η vs).length := by
        have := (List.getElem?_eq_some_iff.mp h).1
        simpa using this
      rw [List.getElem?_set_self hl] at h
      cases h
    · rw [List.getElem?_set_ne (Ne.symm hj)] at h
      obtain ⟨u, h1, h2⟩ := ih.at' j c h
      exact ⟨u, by rw [List.getElem?_set_ne (Ne.symm hj)]; exact h1, h2⟩
end
/-- only the slots ts may have changed -/
def Off (ts : List Nat) (σ σ' : L2.St) : Prop := σ'.length = σ.length ∧ ∀ j, j ∉ ts → σ'[j]? = σ[j]?
theorem Off.refl (ts : List Nat) (σ : L2.St) : Off ts σ σ := ⟨rfl, fun _ _ => rfl⟩
theorem Off.trans {ts us : List Nat} {σ σ1 σ2 : L2.St} (a : Off ts σ σ1) (b : Off us σ1 σ2) : Off (ts ++ us) σ σ2 :=
  ⟨b.1.trans a.1, fun j h => (b.2 j fun z => h (List.mem_append_right _ z)).trans (a.2 j fun z => h (List.mem_append_left _ z))⟩
theorem Off.set (i : Nat) (v : Option V) (σ : L2.St) : Off [i] σ (σ.set i v) := ⟨by simp, fun j h => List.getElem?_set_ne (fun e => h (by simp [e]))⟩
theorem wipe_off : ∀ {ts vs : List Nat} {σ σ' : L2.St}, Off ts σ σ' → (∀ t ∈ ts, t ∈ vs) → L2.wipe σ' vs = L2.wipe σ vs := by
  intro ts vs σ σ' h hs
  apply List.ext_getElem?
  intro j
  by_cases hj : j ∈ vs
  · have gen : ∀ (τ : L2.St) (ws : List Nat), j ∈ ws → (L2.wipe τ ws)[j]? = if j < τ.length then some none else none := by
      intro τ ws
      induction ws with
      | nil => intro z; cases z
      | cons w ws ih =>
        intro z
        show ((L2.wipe τ ws).set w none)[j]? = _
        by_cases e : w = j
        · subst e
          by_cases hl : w < τ.length
          · rw [if_pos hl, List.getElem?_set_self (by rw [L2.wipe_length]; exact hl)]
          · rw [if_neg hl, List.getElem?_eq_none]
            rw [List.length_set, L2.wipe_length]; omega
        · rw [List.getElem?_set_ne e]
          exact ih (by rcases List.mem_cons.mp z with q | q; exact absurd q.symm e; exact q)
    rw [gen _ _ hj, gen _ _ hj, h.1]
  · rw [L2.wipe_out hj, L2.wipe_out hj]
    exact h.2 j fun z => hj (hs j z)

/-! ### what is wanted of what comes -/
/-- an error as it stands: its class, its own dict -/
def XR (K : PySem.W.Frag) (mg : Str → Option Value) (B : Hp) (ρ : List Addr) (H : Hp) (e : Exc) (c : Value) (dx : Option Addr) : Prop :=
  mg e.cls = some c ∧ ∃ (d : Addr) (gs : List (Str × V)), dx = some d ∧ H d = some (.xd gs) ∧ Paired (fun (p : Str × D) (q : Str × V) => p.1 = q.1 ∧ Rp K B ρ p.2 q.2) e.fs gs
def Wp {α : Type} (K : PySem.W.Frag) (mg : Str → Option Value) (F B : Hp) (ρ : List Addr) (W : XK) (P : α → Hp → List Addr → Hp → Prop) : R α → Prop
  | .ok a M' => ∀ B' ρ' H', Le B ρ B' ρ' → MR K F B' ρ' M' H' → P a B' ρ' H'
  | .ex e M' => ∀ c dx B' ρ' H', Le B ρ B' ρ' → MR K F B' ρ' M' H' → XR K mg B' ρ' H' e c dx → W c dx H'
  | .no => False
section
variable {α β : Type} {K : PySem.W.Frag} {mg : Str → Option Value} {F B B' : Hp} {ρ ρ' : List Addr} {W U : XK} {P : α → Hp → List Addr → Hp → Prop} {P' : β → Hp → List Addr → Hp → Prop}
theorem Wp.mono {r : R α} (l : Le B ρ B' ρ') (h : Wp K mg F B ρ W P r) : Wp K mg F B' ρ' W P r := by
  cases r with
  | ok a M => exact fun B2 ρ2 H2 l2 m => h B2 ρ2 H2 (l.trans l2) m
  | ex e M => exact fun c dx B2 ρ2 H2 l2 m x => h c dx B2 ρ2 H2 (l.trans l2) m x
  | no => exact h
theorem Wp.bind {r : R β} {k : β → Mem → R α} (h : Wp K mg F B ρ W P (r.bind k)) (hk : ∀ b M' B' ρ' H', Le B ρ B' ρ' → MR K F B' ρ' M' H' → Wp K mg F B' ρ' W P (k b M') → P' b B' ρ' H') (hU : ∀ c d H, W c d H → U c d H := by first | exact fun _ _ _ h => h | exact fun _ _ _ h => h _ | exact fun _ _ _ h _ => h) : Wp K mg F B ρ U P' r := by
  cases r with
  | ok a M => exact fun B2 ρ2 H2 l2 m => hk a M B2 ρ2 H2 l2 m (Wp.mono l2 h)
  | ex e M => exact fun c dx B2 ρ2 H2 l2 m x => hU _ _ _ (h c dx B2 ρ2 H2 l2 m x)
  | no => exact h
theorem Wp.imp {P2 : α → Hp → List Addr → Hp → Prop} {r : R α} (h : Wp K mg F B ρ W P r) (hp : ∀ a B' ρ' H', Le B ρ B' ρ' → P a B' ρ' H' → P2 a B' ρ' H') : Wp K mg F B ρ W P2 r := by
  cases r with
  | ok a M => exact fun B2 ρ2 H2 l2 m => hp a B2 ρ2 H2 l2 (h B2 ρ2 H2 l2 m)
  | ex e M => exact h
  | no => exact h
theorem Wp.of {o : Option α} {M : Mem} (h : Wp K mg F B ρ W P (R.of o M)) : ∃ a, o = some a ∧ Wp K mg F B ρ W P (.ok a M) := by
  cases o with
  | none => exact h.elim
  | some a => exact ⟨a, rfl, h⟩
theorem Wp.ret {a : α} {M : Mem} {H : Hp} (h : Wp K mg F B ρ W P (.ok a M)) (m : MR K F B ρ M H) : P a B ρ H := h B ρ H (Le.refl _ _) m
end

/-- a wish with the slots, at these; at any -/
abbrev wAt (W : WX) (σ : L2.St) : XK := fun c d H => W c d σ H
abbrev wAll (W : WX) : XK := fun c d H => ∀ σ, W c d σ H
abbrev XE := Dv → Mem → R D
abbrev XT := Dv → Mem → R Bool
abbrev XA := Dv → Mem → R (List D)
/-- how a statement ends -/
inductive Fl where
  | nx (η : Dv) | rt (d : D) | bk (η : Dv) | ct (η : Dv)
abbrev XS := Dv → Mem → R Fl
abbrev XG := D → Dv → Mem → R Dv
abbrev XI := Dv → Mem → R (List D)

section
variable (K : PySem.W.Frag) (mg : Str → Option Value) (W : WX)
def tE (f : XE) : TE := fun σ H Q => ∃ η F B ρ M, ER K B ρ η σ ∧ MR K F B ρ M H ∧ Wp K mg F B ρ (wAt W σ) (fun d B' ρ' H' => ∀ v, Rp K B' ρ' d v → Q v H') (f η M)
def tT (f : XT) : TT := fun σ H Q => ∃ η F B ρ M, ER K B ρ η σ ∧ MR K F B ρ M H ∧ Wp K mg F B ρ (wAt W σ) (fun b _ _ H' => Q b H') (f η M)
def tA (f : XA) : TA := fun σ H Q => ∃ η F B ρ M, ER K B ρ η σ ∧ MR K F B ρ M H ∧ Wp K mg F B ρ (wAt W σ) (fun ds B' ρ' H' => ∀ vs, Rps K B' ρ' ds vs → Q vs H') (f η M)
def FlP (E : Ends) : Fl → Hp → List Addr → Hp → Prop
  | .nx η, B, ρ, H => ∀ σ, ER K B ρ η σ → E.nx σ H
  | .bk η, B, ρ, H => ∀ σ, ER K B ρ η σ → E.bk σ H
  | .ct η, B, ρ, H => ∀ σ, ER K B ρ η σ → E.ct σ H
  | .rt d, B, ρ, H => ∀ v, Rp K B ρ d v → E.rt v H
def tS (f : XS) : TS := fun E σ H => ∃ η F B ρ M, ER K B ρ η σ ∧ MR K F B ρ M H ∧ Wp K mg F B ρ (wAll W) (FlP K E) (f η M)
def tG (ts : List Nat) (g : XG) : TG := fun v σ H Q => ∃ d η F B ρ M, Rp K B ρ d v ∧ ER K B ρ η σ ∧ MR K F B ρ M H ∧ Wp K mg F B ρ (wAll W) (fun η' B' ρ' H' => ∀ σ', ER K B' ρ' η' σ' → Off ts σ σ' → Q σ' H') (g d η M)
def tGs (ts : List Nat) (g : List D → Dv → Mem → R Dv) : TGs := fun vs σ H Q => ∃ ds η F B ρ M, Rps K B ρ ds vs ∧ ER K B ρ η σ ∧ MR K F B ρ M H ∧ Wp K mg F B ρ (wAll W) (fun η' B' ρ' H' => ∀ σ', ER K B' ρ' η' σ' → Off ts σ σ' → Q σ' H') (g ds η M)
/-- a walk gives just these, as long as what is known stays -/
structure WalkD (J : It) (B : Hp) (ρ : List Addr) (ds : List D) : Prop where
  w : ∃ (G : Hp → Prop) (Y : Nat → Hp → V → Hp → Prop), Walk J ds.length G Y ∧ (∀ H, Ex B H → G H) ∧
    ∀ (i : Nat) (d : D), ds[i]? = some d → ∀ F B1 ρ1 M H x H2, Le B ρ B1 ρ1 → MR K F B1 ρ1 M H → Y i H x H2 → ∃ B2, Le B1 ρ1 B2 ρ1 ∧ MR K F B2 ρ1 M H2 ∧ Rp K B2 ρ1 d x ∧ Ex H H2
def tI (f : XI) : TI := fun σ H Z => ∃ η F B ρ M, ER K B ρ η σ ∧ MR K F B ρ M H ∧ Wp K mg F B ρ (wAt W σ) (fun ds B' ρ' H' => ∀ J, WalkD K J B' ρ' ds → Z J H') (f η M)
end
section
variable (X : Cx) (W : WX)
/-- THE JUDGEMENTS: a text of the program does what the plain function says -/
def DE (e : Expr) (f : XE) : Prop := PE X e (tE X.K X.mg W f)
def DT (e : Expr) (f : XT) : Prop := PT X e (tT X.K X.mg W f)
def DW (e : Expr) (f : XT) : Prop := PW X e (tT X.K X.mg W f)
def DA (es : List Expr) (f : XA) : Prop := PA X es (tA X.K X.mg W f)
def DS (st : Stmt) (f : XS) : Prop := PS X st (tS X.K X.mg W f)
def DSs (sts : List Stmt) (f : XS) : Prop := PSs X sts (tS X.K X.mg W f)
def DG (tg : Expr) (ts : List Nat) (g : XG) : Prop := PG X tg (tG X.K X.mg W ts g)
def DGs (tgs : List Expr) (ts : List Nat) (g : List D → Dv → Mem → R Dv) : Prop := PGs X tgs (tGs X.K X.mg W ts g)
def DI (tg iter : Expr) (f : XI) : Prop := PI X tg iter (tI X.K X.mg W f)
def DTs (ifs : List Expr) (f : XT) : Prop := PTs X ifs (tT X.K X.mg W f)
end
section
variable {X : Cx}
theorem PE.imp {e : Expr} {t t' : TE} (h : PE X e t) (i : ∀ σ H Q, t' σ H Q → t σ H Q) : PE X e t' := ⟨fun pins s σ H Q I q => h.run pins s σ H Q I (i σ H Q q)⟩
theorem PT.imp {e : Expr} {t t' : TT} (h : PT X e t) (i : ∀ σ H Q, t' σ H Q → t σ H Q) : PT X e t' := ⟨fun pins s σ H Q I q => h.run pins s σ H Q I (i σ H Q q)⟩
theorem PW.imp {e : Expr} {t t' : TT} (h : PW X e t) (i : ∀ σ H Q, t' σ H Q → t σ H Q) : PW X e t' := ⟨fun wh pins s σ H Q I q => h.run wh pins s σ H Q I (i σ H Q q)⟩
theorem PA.imp {es : List Expr} {t t' : TA} (h : PA X es t) (i : ∀ σ H Q, t' σ H Q → t σ H Q) : PA X es t' := ⟨fun pos pins s σ H Q I q => h.run pos pins s σ H Q I (i σ H Q q)⟩
theorem PS.imp {st : Stmt} {t t' : TS} (h : PS X st t) (i : ∀ E σ H, t' E σ H → t E σ H) : PS X st t' := ⟨fun pins s σ H E I q => h.run pins s σ H E I (i E σ H q)⟩
theorem PSs.imp {st : List Stmt} {t t' : TS} (h : PSs X st t) (i : ∀ E σ H, t' E σ H → t E σ H) : PSs X st t' := ⟨fun pins s σ H E I q => h.run pins s σ H E I (i E σ H q)⟩
theorem PG.imp {tg : Expr} {t t' : TG} (h : PG X tg t) (i : ∀ v σ H Q, t' v σ H Q → t v σ H Q) : PG X tg t' := ⟨fun pins s σ H v u Q I r q => h.run pins s σ H v u Q I r (i v σ H Q q)⟩
theorem PGs.imp {tg : List Expr} {t t' : TGs} (h : PGs X tg t) (i : ∀ v σ H Q, t' v σ H Q → t v σ H Q) : PGs X tg t' := ⟨fun pins s σ H v u Q I r q => h.run pins s σ H v u Q I r (i v σ H Q q)⟩
theorem PI.imp {tg it : Expr} {t t' : TI} (h : PI X tg it t) (i : ∀ σ H Q, t' σ H Q → t σ H Q) : PI X tg it t' := ⟨fun pins s σ H Q I q => h.run pins s σ H Q I (i σ H Q q)⟩
theorem PTs.imp {e : List Expr} {t t' : TT} (h : PTs X e t) (i : ∀ σ H Q, t' σ H Q → t σ H Q) : PTs X e t' := ⟨fun pins s σ H Q I q => h.run pins s σ H Q I (i σ H Q q)⟩
end
end Dn

namespace Dn
open PySem L2 Evl
section
variable {X : Cx} {W : WX}
/-! ### names, constants -/
def xVar (i : Nat) : XE := fun η M => match η[i]? with
  | some (some d) => .ok d M
  | _ => .no
def xC (d : D) : XE := fun _ M => .ok d M
theorem sE {e : Expr} {t : TE} {f : XE} (h : PE X e t) (i : ∀ σ H Q η F B ρ M, ER X.K B ρ η σ → MR X.K F B ρ M H → Wp X.K X.mg F B ρ (wAt W σ) (fun d B' ρ' H' => ∀ v, Rp X.K B' ρ' d v → Q v H') (f η M) → t σ H Q) : DE X W e f :=
  PE.imp h fun σ H Q ⟨η, F, B, ρ, M, e, m, w⟩ => i σ H Q η F B ρ M e m w
theorem de_var {i : Nat} {x : Str} {pos : Pos} (hN : X.N[i]? = some x := by rfl) (hv : Vis X.env.scope x := by first | exact Or.inl rfl | exact Or.inr (Or.inl rfl) | exact Or.inr (Or.inr rfl)) (hd : (x == ("__debug__" : Str)) = false := by decide)
    (hcd : (x == ("__classdict__" : Str)) = false := by decide) : DE X W (.Name x pos) (xVar i) := sE (pe_var hN hv hd hcd) fun σ H Q η F B ρ M e m w => by
  unfold xVar at w
  split at w
  · next d h =>
    obtain ⟨v, h1, h2⟩ := e.at' i d h
    exact ⟨v, h1, w.ret m v h2⟩
  · exact w.elim
theorem de_int {i : Int} {j pos} : DE X W (.Constant (.int i) j pos) (xC (.int i)) := sE pe_int fun σ H Q η F B ρ M e m w => w.ret m _ (.int i)
theorem de_str {x : Str} {j pos} : DE X W (.Constant (.str x) j pos) (xC (.str x)) := sE pe_str fun σ H Q η F B ρ M e m w => w.ret m _ (.str x)
theorem de_bl {b : Bool} {j pos} : DE X W (.Constant (.bool b) j pos) (xC (.bl b)) := sE pe_bl fun σ H Q η F B ρ M e m w => w.ret m _ (.bl b)
theorem de_non {j pos} : DE X W (.Constant .none j pos) (xC .non) := sE pe_non fun σ H Q η F B ρ M e m w => w.ret m _ .non
/-! ### operators -/
/-- an operator on data -/
abbrev Op2 := Mem → D → D → Option D
/-- nothing but new things that stay -/
abbrev Done (K : PySem.W.Frag) (F B : Hp) (ρ : List Addr) (M : Mem) (d : D) (Q : VK) : Prop := ∀ v B' H', Le B ρ B' ρ → MR K F B' ρ M H' → Rp K B' ρ d v → Q v H'
def OSnd (K : PySem.W.Frag) (r : R2) (h : Op2) : Prop := ∀ F B ρ M H x y dx dy dz (Q : VK), MR K F B ρ M H → Rp K B ρ dx x → Rp K B ρ dy y → h M dx dy = some dz → Done K F B ρ M dz Q → r x y H Q
def xOp (h : Op2) (f g : XE) : XE := fun η M => (f η M).bind fun x M1 => (g η M1).bind fun y M2 => R.of (h M2 x y) M2
theorem done_of {U : XK} {K : PySem.W.Frag} {mg : Str → Option Value} {F B : Hp} {ρ : List Addr} {M : Mem} {d : D} {Q : VK} (h : Wp K mg F B ρ U (fun d B' ρ' H' => ∀ v, Rp K B' ρ' d v → Q v H') (.ok d M)) : Done K F B ρ M d Q :=
  fun v B' H' l m r => h B' ρ H' l m v r
theorem op_snd {r : R2} {h : Op2} {f g : XE} {ta tb : TE} (os : OSnd X.K r h) (ha : ∀ σ H Q, tE X.K X.mg W f σ H Q → ta σ H Q) (hb : ∀ σ H Q, tE X.K X.mg W g σ H Q → tb σ H Q) (σ : L2.St) (H : Hp) (Q : VK) (q : tE X.K X.mg W (xOp h f g) σ H Q) : tOp r ta tb σ H Q := by
  obtain ⟨η, F, B, ρ, M, e, m, w⟩ := q
  refine ha _ _ _ ⟨η, F, B, ρ, M, e, m, w.bind fun dx M1 B1 ρ1 H1 l1 m1 w1 x rx => ?_⟩
  refine hb _ _ _ ⟨η, F, B1, ρ1, M1, e.mono l1, m1, w1.bind fun dy M2 B2 ρ2 H2 l2 m2 w2 y ry => ?_⟩
  obtain ⟨dz, hz, w3⟩ := w2.of
  exact os F B2 ρ2 M2 H2 x y dx dy dz Q m2 (rx.mono l2) ry hz (done_of w3)
def OpD (X : Cx) (f : Value → Value → Sem Value) (h : Op2) : Prop := ∃ r, OpR X f r ∧ OSnd X.K r h
variable {a b c : Expr} {f g k : XE} {pos : Pos}
theorem de_op {op : Operator} {h : Op2} (o : OpD X (binaryOp op) h) (ha : DE X W a f) (hb : DE X W b g) : DE X W (.BinOp a op b pos) (xOp h f g) := by
  obtain ⟨r, ho, os⟩ := o
  exact PE.imp (pe_op ho ha hb) (op_snd os (fun _ _ _ q => q) fun _ _ _ q => q)
theorem de_cmp {op : CmpOp} {h : Op2} (o : OpD X (compareOp op) h) (ha : DE X W a f) (hb : DE X W b g) (hm : behindInMarks op b = false) : DE X W (.Compare a [op] [b] pos) (xOp h f g) := by
  obtain ⟨r, ho, os⟩ := o
  exact PE.imp (pe_cmpR ho ha hb hm) (op_snd os (fun _ _ _ q => q) fun _ _ _ q => q)
/-- the data is a truth -/
def asB : D → Option Bool
  | .bl b => some b
  | _ => none
theorem asB_some {d : D} {b : Bool} (h : asB d = some b) : d = .bl b := by
  cases d <;> simp_all [asB]
def xTst (f : XE) : XT := fun η M => (f η M).bind fun d M1 => R.of (asB d) M1
theorem tst_snd {f : XE} {te : TE} (ha : ∀ σ H Q, tE X.K X.mg W f σ H Q → te σ H Q) (σ : L2.St) (H : Hp) (Q : Bool → Hp → Prop) (q : tT X.K X.mg W (xTst f) σ H Q) : te σ H fun x H' => ∃ k, x = .bl k ∧ Q k H' := by
  obtain ⟨η, F, B, ρ, M, e, m, w⟩ := q
  refine ha _ _ _ ⟨η, F, B, ρ, M, e, m, w.bind fun dx M1 B1 ρ1 H1 l1 m1 w1 x rx => ?_⟩
  obtain ⟨b, hb, w2⟩ := w1.of
  rw [asB_some hb] at rx
  cases rx
  exact ⟨b, rfl, w2.ret m1⟩
theorem dt_cmp {op : CmpOp} {h : Op2} (o : OpD X (compareOp op) h) (ha : DE X W a f) (hb : DE X W b g) (hm : behindInMarks op b = false) : DT X W (.Compare a [op] [b] pos) (xTst (xOp h f g)) := by
  obtain ⟨r, ho, os⟩ := o
  exact PT.imp (pt_cmpR ho ha hb hm) fun σ H Q q => tst_snd (op_snd os (fun _ _ _ q => q) fun _ _ _ q => q) σ H Q q
/-- a chain of two comparisons -/
def xChain (h h' : Op2) (f g k : XE) : XE := fun η M => (f η M).bind fun x M1 => (g η M1).bind fun y M2 => (R.of ((h M2 x y).bind asB) M2).bind fun b M3 =>
  if b = true then (k η M3).bind fun z M4 => R.of (h' M4 y z) M4 else .ok (.bl false) M3
/-! ### and, or, not, if else -/
variable {p q : XT} {rest : List Expr}
def xAnd (p q : XT) : XT := fun η M => (p η M).bind fun b M1 => if b = true then q η M1 else .ok false M1
def xOr (p q : XT) : XT := fun η M => (p η M).bind fun b M1 => if b = true then .ok true M1 else q η M1
def xNot (p : XT) : XT := fun η M => (p η M).bind fun b M1 => .ok (!b) M1
theorem dw_or1 (ha : DT X W a p) : DW X W (.BoolOp .Or [a] pos) p := pw_or1 ha
theorem dw_or (ha : DT X W a p) (hb : DW X W (.BoolOp .Or (b :: rest) pos) q) : DW X W (.BoolOp .Or (a :: b :: rest) pos) (xOr p q) :=
  PW.imp (pw_or ha hb) fun σ H Q z => by
    obtain ⟨η, F, B, ρ, M, e, m, w⟩ := z
    refine ⟨η, F, B, ρ, M, e, m, w.bind fun t M1 B1 ρ1 H1 l1 m1 w1 => ?_⟩
    cases t with
    | false => exact ⟨η, F, B1, ρ1, M1, e.mono l1, m1, w1⟩
    | true => exact Wp.ret (P := fun b _ _ H' => Q b H') w1 m1
theorem dt_w {e : Expr} (h : DW X W e p) : DT X W e p := PW.pt h
theorem dt_not (ha : DT X W a p) : DT X W (.UnaryOp .Not a pos) (xNot p) :=
  PT.imp (pt_not ha) fun σ H Q z => by
    obtain ⟨η, F, B, ρ, M, e, m, w⟩ := z
    exact ⟨η, F, B, ρ, M, e, m, w.bind fun t M1 B1 ρ1 H1 l1 m1 w1 => Wp.ret (P := fun b _ _ H' => Q b H') w1 m1⟩
/-- as values: truths -/
def xAndV (f g : XE) : XE := fun η M => (f η M).bind fun d M1 => (R.of (asB d) M1).bind fun b M2 => if b = true then g η M2 else .ok (.bl false) M2
theorem de_one {op} (h : DE X W a f) : DE X W (.BoolOp op [a] pos) f := pe_one h
theorem de_and (ha : DE X W a f) (hb : DE X W (.BoolOp .And (b :: rest) pos) g) : DE X W (.BoolOp .And (a :: b :: rest) pos) (xAndV f g) :=
  PE.imp (pe_and ha hb) fun σ H Q z => by
    obtain ⟨η, F, B, ρ, M, e, m, w⟩ := z
    refine ⟨η, F, B, ρ, M, e, m, w.bind fun dx M1 B1 ρ1 H1 l1 m1 w1 x rx => ?_⟩
    cases hb : asB dx with
    | none => rw [hb] at w1; exact w1.elim
    | some t =>
      rw [hb] at w1
      rw [asB_some hb] at rx
      cases rx
      refine ⟨t, rfl, ?_⟩
      cases t with
      | true => exact ⟨η, F, B1, ρ1, M1, e.mono l1, m1, w1⟩
      | false => exact Wp.ret (P := fun d B' ρ' H' => ∀ v, Rp X.K B' ρ' d v → Q v H') w1 m1 _ (.bl false)
def xIf (p : XT) (f g : XE) : XE := fun η M => (p η M).bind fun b M1 => if b = true then f η M1 else g η M1
end
end Dn

namespace Dn
open PySem L2 Evl
/-! ### what data is read as -/
def asL (M : Mem) : D → Option (List D)
  | .lst ds => some ds
  | .scr ns => some (ns.map D.int)
  | .ptr n => match M[n]? with
    | some (.lst ds) => some ds
    | _ => none
  | _ => none
def asT : D → Option (List D)
  | .tup ds => some ds
  | _ => none
def asS : D → Option Str
  | .str s => some s
  | _ => none
def asI : D → Option Int
  | .int i => some i
  | _ => none
section
variable {K : PySem.W.Frag} {F B H : Hp} {ρ : List Addr} {M : Mem}
theorem rps_ints : ∀ (ns : List Int), Rps K B ρ (ns.map D.int) (ns.map V.int)
  | [] => .nil
  | n :: ns => .cons (.int n) (rps_ints ns)
theorem MR.list (m : MR K F B ρ M H) {n : Nat} {a : Addr} {ds : List D} (ha : ρ[n]? = some a) (h : M[n]? = some (.lst ds)) : ∃ vs, H a = some (.lst vs) ∧ Rps K B ρ ds vs ∧ B a = none := by
  obtain ⟨b, hb, hB, vs, e, r⟩ := m.ob n _ h
  rw [ha] at hb
  cases hb
  exact ⟨vs, e, r, hB (by intro z; cases z)⟩
theorem asL_snd (m : MR K F B ρ M H) {d : D} {v : V} {ds : List D} (r : Rp K B ρ d v) (h : asL M d = some ds) : ∃ a vs, v = .ref a ∧ SqL K H a vs ∧ Rps K B ρ ds vs := by
  cases r with
  | lst e q => cases h; exact ⟨_, _, rfl, sq_of (m.ex _ _ e), q⟩
  | scr e => cases h; exact ⟨_, _, rfl, ex_l m.ex e, rps_ints _⟩
  | @ptr n a ha =>
    have h' : (match M[n]? with | some (.lst ds) => some ds | _ => none) = some ds := h
    split at h'
    · next ds' hm =>
      cases h'
      obtain ⟨vs, e, q, _⟩ := m.list ha hm
      exact ⟨_, vs, rfl, sq_of e, q⟩
    · cases h'
  | non => cases h
  | bl b => cases h
  | int i => cases h
  | str z => cases h
  | tup e q => cases h
  | dct e q => cases h
  | dcT e q => cases h
  | ins c e q => cases h
  | fn c => cases h
  | raw v => cases h
theorem asT_snd (m : MR K F B ρ M H) {d : D} {v : V} {ds : List D} (r : Rp K B ρ d v) (h : asT d = some ds) : ∃ a vs, v = .ref a ∧ SqT K H a vs ∧ Rps K B ρ ds vs := by
  cases r with
  | tup e q => cases h; exact ⟨_, _, rfl, ex_t m.ex e, q⟩
  | _ => cases h
theorem asS_snd {d : D} {v : V} {s : Str} (r : Rp K B ρ d v) (h : asS d = some s) : v = .str s := by
  cases r with
  | str e => cases h; rfl
  | _ => cases h
theorem asI_snd {d : D} {v : V} {i : Int} (r : Rp K B ρ d v) (h : asI d = some i) : v = .int i := by
  cases r with
  | int e => cases h; rfl
  | _ => cases h
/-- a new thing that stays is told -/
theorem Done.new {d : D} {Q : VK} {o : HO} (m : MR K F B ρ M H) (k : Done K F B ρ M d Q) (r : ∀ p, H p = none → Rp K (upd B p o) ρ d (.ref p)) : ∀ p, H p = none → Q (.ref p) (upd H p o) := fun p hp => by
  obtain ⟨m', l⟩ := m.new (o := o) hp
  exact k _ _ _ l m' (r p hp)
theorem Done.newL {ds : List D} {vs : List V} {Q : VK} (m : MR K F B ρ M H) (r : Rps K B ρ ds vs) (k : Done K F B ρ M (.lst ds) Q) : ∀ p, H p = none → Q (.ref p) (upd H p (.lst vs)) :=
  Done.new m k fun p hp => .lst upd_same (r.mono (m.new hp).2)
theorem Done.newT {ds : List D} {vs : List V} {Q : VK} (m : MR K F B ρ M H) (r : Rps K B ρ ds vs) (k : Done K F B ρ M (.tup ds) Q) : ∀ p, H p = none → Q (.ref p) (upd H p (.tup vs)) :=
  Done.new m k fun p hp => .tup (st_of upd_same) (r.mono (m.new hp).2) (.inr upd_same)
theorem Done.same {d : D} {v : V} {Q : VK} (m : MR K F B ρ M H) (r : Rp K B ρ d v) (k : Done K F B ρ M d Q) : Q v H := k v B H (Le.refl _ _) m r
end

/-! ### operators on data -/
def oOr (h h' : Op2) : Op2 := fun M x y => match h M x y with
  | some z => some z
  | none => h' M x y
section
variable {X : Cx} {fv : Value → Value → Sem Value}
theorem OpD.or {h h' : Op2} (a : OpD X fv h) (b : OpD X fv h') : OpD X fv (oOr h h') := by
  obtain ⟨r, o, s⟩ := a
  obtain ⟨r', o', s'⟩ := b
  refine ⟨_, OpR.or o o', fun F B ρ M H x y dx dy dz Q m rx ry e k => ?_⟩
  unfold oOr at e
  split at e
  · next z hz => cases e; exact .inl (s F B ρ M H x y dx dy _ Q m rx ry hz k)
  · exact .inr (s' F B ρ M H x y dx dy dz Q m rx ry e k)
/-- two ints -/
def oI (C : Int → Int → Prop) [∀ i j, Decidable (C i j)] (g : Int → Int → Int) : Op2 := fun _ x y => (asI x).bind fun i => (asI y).bind fun j => if C i j then some (.int (g i j)) else none
def oI0 (g : Int → Int → Int) : Op2 := fun _ x y => (asI x).bind fun i => (asI y).bind fun j => some (.int (g i j))
def oIB (g : Int → Int → Bool) : Op2 := fun _ x y => (asI x).bind fun i => (asI y).bind fun j => some (.bl (g i j))
theorem od_I {C : Int → Int → Prop} [∀ i j, Decidable (C i j)] {g : Int → Int → Int} (o : OpR X fv (rI C fun i j => .int (g i j))) : OpD X fv (oI C g) := by
  refine ⟨_, o, fun F B ρ M H x y dx dy dz Q m rx ry e k => ?_⟩
  unfold oI at e
  cases h1 : asI dx with
  | none => simp [h1] at e
  | some i =>
    cases h2 : asI dy with
    | none => simp [h1, h2] at e
    | some j =>
      by_cases hc : C i j
      · simp [h1, h2, hc] at e
        subst e
        exact ⟨i, j, asI_snd rx h1, asI_snd ry h2, hc, k.same m (.int _)⟩
      · simp [h1, h2, hc] at e
theorem od_I0 {g : Int → Int → Int} (o : OpR X fv (rI0 fun i j => .int (g i j))) : OpD X fv (oI0 g) := by
  refine ⟨_, o, fun F B ρ M H x y dx dy dz Q m rx ry e k => ?_⟩
  unfold oI0 at e
  cases h1 : asI dx with
  | none => simp [h1] at e
  | some i =>
    cases h2 : asI dy with
    | none => simp [h1, h2] at e
    | some j =>
      simp [h1, h2] at e
      subst e
      exact ⟨i, j, asI_snd rx h1, asI_snd ry h2, k.same m (.int _)⟩
theorem od_IB {g : Int → Int → Bool} (o : OpR X fv (rI0 fun i j => .bl (g i j))) : OpD X fv (oIB g) := by
  refine ⟨_, o, fun F B ρ M H x y dx dy dz Q m rx ry e k => ?_⟩
  unfold oIB at e
  cases h1 : asI dx with
  | none => simp [h1] at e
  | some i =>
    cases h2 : asI dy with
    | none => simp [h1, h2] at e
    | some j =>
      simp [h1, h2] at e
      subst e
      exact ⟨i, j, asI_snd rx h1, asI_snd ry h2, k.same m (.bl _)⟩
instance (i j : Int) : Decidable (CMul i j) := by unfold CMul; infer_instance
instance (i j : Int) : Decidable (CDiv i j) := by unfold CDiv; infer_instance
def CPw (i j : Int) : Prop := 0 ≤ j ∧ j ≤ 1000 ∧ i.natAbs < 2 ^ 10000
instance (i j : Int) : Decidable (CPw i j) := by unfold CPw; infer_instance
theorem bits_of {i : Int} {b : Nat} (h : i.natAbs < 2 ^ b) : Builtin.Int.intBits i ≤ b := by
  unfold Builtin.Int.intBits
  split
  · omega
  · next h0 =>
    have : i.natAbs ≠ 0 := by simpa using h0
    have := (Nat.log2_lt this).mpr h
    omega
theorem op_pw : OpR X (binaryOp .Pow) (rI CPw fun i j => .int (i ^ j.toNat)) := opI fun i j _ _ _ _ _ hc q => by
  refine PyProof.Rows.pow_int hc.1 ?_ q
  have h1 := bits_of hc.2.2
  have h2 := hc.2.1
  have h3 := hc.1
  have h4 : (Builtin.Int.intBits i : Int) ≤ 10000 := by omega
  have h5 : (Builtin.Int.intBits i : Int) * j ≤ 10000 * 1000 := Int.mul_le_mul h4 h2 h3 (by omega)
  omega
def dSub : Op2 := oI0 fun i j => i - j
def dMul : Op2 := oI CMul fun i j => i * j
def dMod : Op2 := oI (fun _ j => 0 < j) fun i j => i % j
def dDiv : Op2 := oI CDiv fun i j => i / j
def dPow : Op2 := oI CPw fun i j => i ^ j.toNat
theorem od_mul : OpD X (binaryOp .Mult) dMul := od_I op_mul
theorem od_mod : OpD X (binaryOp .Mod) dMod := od_I op_mod
theorem od_div : OpD X (binaryOp .FloorDiv) dDiv := od_I op_fdiv
theorem od_pow : OpD X (binaryOp .Pow) dPow := od_I op_pw
/-- two texts -/
def oS2 (g : Str → Str → Option D) : Op2 := fun _ x y => (asS x).bind fun i => (asS y).bind fun j => g i j
theorem oS2_some {g : Str → Str → Option D} {M : Mem} {x y z : D} (h : oS2 g M x y = some z) : ∃ i j, asS x = some i ∧ asS y = some j ∧ g i j = some z := by
  unfold oS2 at h
  cases h1 : asS x with
  | none => simp [h1] at h
  | some i =>
    cases h2 : asS y with
    | none => simp [h1, h2] at h
    | some j => simp [h1, h2] at h; exact ⟨i, j, rfl, rfl, h⟩
def sAdd : Op2 := oS2 fun i j => if i.length + j.length ≤ sizeLine then some (.str (i ++ j)) else none
theorem od_sadd : OpD X (binaryOp .Add) sAdd := by
  refine ⟨_, op_add_str, fun F B ρ M H x y dx dy dz Q m rx ry e k => ?_⟩
  obtain ⟨i, j, h1, h2, h3⟩ := oS2_some e
  by_cases hc : i.length + j.length ≤ sizeLine
  · simp [hc] at h3
    subst h3
    exact ⟨i, j, asS_snd rx h1, asS_snd ry h2, hc, k.same m (.str _)⟩
  · simp [hc] at h3
/-- two tuples -/
def tAdd' : Op2 := fun _ x y => (asT x).bind fun ds => (asT y).bind fun es => if ds.length + es.length ≤ sizeLine then some (.tup (ds ++ es)) else none
theorem od_tadd : OpD X (binaryOp .Add) tAdd' := by
  refine ⟨_, op_catA, fun F B ρ M H x y dx dy dz Q m rx ry e k => ?_⟩
  unfold tAdd' at e
  cases h1 : asT dx with
  | none => simp [h1] at e
  | some ds =>
    cases h2 : asT dy with
    | none => simp [h1, h2] at e
    | some es =>
      by_cases hc : ds.length + es.length ≤ sizeLine
      · simp [h1, h2, hc] at e
        subst e
        obtain ⟨a, vs, rfl, hs, rs⟩ := asT_snd m rx h1
        obtain ⟨b, us, rfl, ht, rt⟩ := asT_snd m ry h2
        have l1 := rs.len
        have l2 := rt.len
        refine ⟨a, b, vs, us, rfl, rfl, hs, ht, by omega, fun z => ?_, fun _ z => ?_, fun _ _ => k.newT m (rs.app rt)⟩
        · subst z
          cases rs
          have : asT dy = some es := h2
          cases dy <;> simp [asT] at this
          subst this
          exact k.same m ry
        · subst z
          cases rt
          have : asT dx = some ds := h1
          cases dx <;> simp [asT] at this
          subst this
          rw [List.append_nil] at k
          exact k.same m rx
      · simp [h1, h2, hc] at e
/-- two lists (plain ones) -/
def asP (M : Mem) : D → Option (List D)
  | .lst ds => some ds
  | .ptr n => match M[n]? with
    | some (.lst ds) => some ds
    | _ => none
  | _ => none
theorem asP_snd {K : PySem.W.Frag} {F B H : Hp} {ρ : List Addr} {M : Mem} (m : MR K F B ρ M H) {d : D} {v : V} {ds : List D} (r : Rp K B ρ d v) (h : asP M d = some ds) : ∃ a vs, v = .ref a ∧ H a = some (.lst vs) ∧ Rps K B ρ ds vs := by
  cases r with
  | lst e q => cases h; exact ⟨_, _, rfl, m.ex _ _ e, q⟩
  | @ptr n a ha =>
    have h' : (match M[n]? with | some (.lst ds) => some ds | _ => none) = some ds := h
    split at h'
    · next ds' hm =>
      cases h'
      obtain ⟨vs, e, q, _⟩ := m.list ha hm
      exact ⟨_, vs, rfl, e, q⟩
    · cases h'
  | non => cases h
  | bl b => cases h
  | int i => cases h
  | str z => cases h
  | tup e q => cases h
  | dct e q => cases h
  | dcT e q => cases h
  | ins c e q => cases h
  | fn c => cases h
  | scr e => cases h
  | raw v => cases h
def lAdd : Op2 := fun M x y => (asP M x).bind fun ds => (asP M y).bind fun es => if ds.length + es.length ≤ sizeLine then some (.lst (ds ++ es)) else none
theorem od_ladd : OpD X (binaryOp .Add) lAdd := by
  refine ⟨_, op_cat, fun F B ρ M H x y dx dy dz Q m rx ry e k => ?_⟩
  unfold lAdd at e
  cases h1 : asP M dx with
  | none => simp [h1] at e
  | some ds =>
    cases h2 : asP M dy with
    | none => simp [h1, h2] at e
    | some es =>
      by_cases hc : ds.length + es.length ≤ sizeLine
      · simp [h1, h2, hc] at e
        subst e
        obtain ⟨a, vs, rfl, hs, rs⟩ := asP_snd m rx h1
        obtain ⟨b, us, rfl, ht, rt⟩ := asP_snd m ry h2
        have l1 := rs.len
        have l2 := rt.len
        exact ⟨a, b, vs, us, rfl, rfl, hs, ht, by omega, k.newL m (rs.app rt)⟩
      · simp [h1, h2, hc] at e
def dAdd : Op2 := oOr (oI0 fun i j => i + j) (oOr sAdd (oOr tAdd' lAdd))
theorem od_add : OpD X (binaryOp .Add) dAdd := (od_I0 op_add).or (od_sadd.or (od_tadd.or od_ladd))
/-! comparisons -/
def dLt : Op2 := oOr (oIB fun i j => decide (i < j)) (oS2 fun i j => some (.bl (decide (i.cps.toList < j.cps.toList))))
def dLe : Op2 := oIB fun i j => decide (i ≤ j)
def dGt : Op2 := oIB fun i j => decide (j < i)
def dGe : Op2 := oIB fun i j => decide (j ≤ i)
theorem od_lts : OpD X (compareOp .Lt) (oS2 fun i j => some (.bl (decide (i.cps.toList < j.cps.toList)))) := by
  refine ⟨_, op_lt_str, fun F B ρ M H x y dx dy dz Q m rx ry e k => ?_⟩
  obtain ⟨i, j, h1, h2, h3⟩ := oS2_some e
  obtain rfl := Option.some.inj h3
  exact ⟨i, j, asS_snd rx h1, asS_snd ry h2, k.same m (.bl _)⟩
theorem od_lt : OpD X (compareOp .Lt) dLt := (od_IB op_lt).or od_lts
theorem od_gt : OpD X (compareOp .Gt) dGt := od_IB op_gt
theorem od_ge : OpD X (compareOp .GtE) dGe := od_IB op_ge
end
end Dn

namespace Dn
open PySem L2 Evl
section
variable {X : Cx} {W : WX} {a b c e o : Expr} {es : List Expr} {f g k : XE} {fa : XA} {pos : Pos}
/-! ### arguments, displays -/
def xNil : XA := fun _ M => .ok [] M
def xCons (f : XE) (g : XA) : XA := fun η M => (f η M).bind fun d M1 => (g η M1).bind fun ds M2 => .ok (d :: ds) M2
theorem da_nil : DA X W [] xNil := PA.imp pa_nil fun σ H Q z => by
  obtain ⟨η, F, B, ρ, M, e, m, w⟩ := z
  exact Wp.ret w m [] .nil
theorem da_cons (ha : DE X W e f) (hr : DA X W es fa) (hs : starEach (e :: es) X.env = (false, eval e X.env) :: starEach es X.env := by rfl) : DA X W (e :: es) (xCons f fa) :=
  PA.imp (pa_cons ha hr hs) fun σ H Q z => by
    obtain ⟨η, F, B, ρ, M, er, m, w⟩ := z
    refine ⟨η, F, B, ρ, M, er, m, w.bind fun d M1 B1 ρ1 H1 l1 m1 w1 x rx => ?_⟩
    exact ⟨η, F, B1, ρ1, M1, er.mono l1, m1, w1.bind fun ds M2 B2 ρ2 H2 l2 m2 w2 xs rxs => Wp.ret w2 m2 _ (.cons (rx.mono l2) rxs)⟩
def xTup (g : XA) : XE := fun η M => (g η M).bind fun ds M1 => if ds.length ≤ 100000 then .ok (.tup ds) M1 else .no
def xLst (g : XA) : XE := fun η M => (g η M).bind fun ds M1 => if ds.length ≤ 100000 then .ok (.lst ds) M1 else .no
/-- a new list that may change -/
def xLstM (g : XA) : XE := fun η M => (g η M).bind fun ds M1 => if ds.length ≤ 100000 then .ok (.ptr M1.length) (M1 ++ [.lst ds]) else .no
theorem de_tup {x1} (h : DA X W es fa) : DE X W (.Tuple es x1 pos) (xTup fa) := PE.imp (pe_tup h) fun σ H Q z => by
  obtain ⟨η, F, B, ρ, M, er, m, w⟩ := z
  refine ⟨η, F, B, ρ, M, er, m, w.bind fun ds M1 B1 ρ1 H1 l1 m1 w1 xs rx => ?_⟩
  split at w1
  · next hl => exact ⟨by rw [← rx.len]; exact sz_of hl, (done_of w1).newT m1 rx⟩
  · exact w1.elim
theorem de_lst (h : DA X W es fa) : DE X W (.List es pos) (xLst fa) := PE.imp (pe_lst h) fun σ H Q z => by
  obtain ⟨η, F, B, ρ, M, er, m, w⟩ := z
  refine ⟨η, F, B, ρ, M, er, m, w.bind fun ds M1 B1 ρ1 H1 l1 m1 w1 xs rx => ?_⟩
  split at w1
  · next hl => exact ⟨by rw [← rx.len]; exact sz_of hl, (done_of w1).newL m1 rx⟩
  · exact w1.elim
/-- a list told as one that may change -/
theorem putM {U : XK} {K : PySem.W.Frag} {mg : Str → Option Value} {F B H : Hp} {ρ : List Addr} {M : Mem} {ds : List D} {vs : List V} {Q : VK} (m : MR K F B ρ M H) (r : Rps K B ρ ds vs)
    (w : Wp K mg F B ρ U (fun d B' ρ' H' => ∀ v, Rp K B' ρ' d v → Q v H') (.ok (.ptr M.length) (M ++ [.lst ds]))) : ∀ p, H p = none → Q (.ref p) (upd H p (.lst vs)) := fun p hp => by
  have l : Le B ρ B (ρ ++ [p]) := ⟨Ex.refl B, [p], rfl⟩
  obtain ⟨m', _⟩ := m.alloc (o := .lst vs) (ob := .lst ds) hp ⟨vs, upd_same, r.mono l⟩
  exact w _ _ _ l m' _ (.ptr (by rw [← m.len]; simp))
theorem de_lstM (h : DA X W es fa) : DE X W (.List es pos) (xLstM fa) := PE.imp (pe_lst h) fun σ H Q z => by
  obtain ⟨η, F, B, ρ, M, er, m, w⟩ := z
  refine ⟨η, F, B, ρ, M, er, m, w.bind fun ds M1 B1 ρ1 H1 l1 m1 w1 xs rx => ?_⟩
  split at w1
  · next hl => exact ⟨by rw [← rx.len]; exact sz_of hl, putM m1 rx w1⟩
  · exact w1.elim

/-! ### subscripts -/
def lIx : Op2 := fun M x y => (asL M x).bind fun ds => (asI y).bind fun i => atI ds i
def tIx : Op2 := fun _ x y => (asT x).bind fun ds => (asI y).bind fun i => atI ds i
def sIx : Op2 := fun _ x y => (asS x).bind fun s => (asI y).bind fun i => if s.length ≤ sizeLine then (atI s.cps.toList i).map fun c => .str ⟨#[c]⟩ else none
theorem atI_rel {K : PySem.W.Frag} {B : Hp} {ρ : List Addr} {ds : List D} {vs : List V} {i : Int} {d : D} (r : Rps K B ρ ds vs) (h : atI ds i = some d) : ∃ v, atI vs i = some v ∧ Rp K B ρ d v := by
  unfold atI at h ⊢
  rw [r.len] at h
  cases hj : ixN vs.length i with
  | none => simp [hj] at h
  | some j =>
    simp [hj] at h
    obtain ⟨v, h1, h2⟩ := r.get h
    exact ⟨v, by simpa using h1, h2⟩
def IxD (X : Cx) (h : Op2) : Prop := ∃ r, IxR X r ∧ OSnd X.K r h
theorem IxD.or {h h' : Op2} (a : IxD X h) (b : IxD X h') : IxD X (oOr h h') := by
  obtain ⟨r, o, s⟩ := a
  obtain ⟨r', o', s'⟩ := b
  refine ⟨_, IxR.or o o', fun F B ρ M H x y dx dy dz Q m rx ry e k => ?_⟩
  unfold oOr at e
  split at e
  · next z hz => cases e; exact .inl (s F B ρ M H x y dx dy _ Q m rx ry hz k)
  · exact .inr (s' F B ρ M H x y dx dy dz Q m rx ry e k)
theorem ixd_list : IxD X lIx := by
  refine ⟨_, ix_list, fun F B ρ M H x y dx dy dz Q m rx ry e k => ?_⟩
  unfold lIx at e
  cases h1 : asL M dx with
  | none => simp [h1] at e
  | some ds =>
    cases h2 : asI dy with
    | none => simp [h1, h2] at e
    | some i =>
      simp [h1, h2] at e
      obtain ⟨a, vs, rfl, hs, rs⟩ := asL_snd m rx h1
      obtain ⟨v, hv, rv⟩ := atI_rel rs e
      exact ⟨a, vs, i, v, rfl, asI_snd ry h2, hs, hv, k.same m rv⟩
theorem ixd_tup : IxD X tIx := by
  refine ⟨_, ix_tup, fun F B ρ M H x y dx dy dz Q m rx ry e k => ?_⟩
  unfold tIx at e
  cases h1 : asT dx with
  | none => simp [h1] at e
  | some ds =>
    cases h2 : asI dy with
    | none => simp [h1, h2] at e
    | some i =>
      simp [h1, h2] at e
      obtain ⟨a, vs, rfl, hs, rs⟩ := asT_snd m rx h1
      obtain ⟨v, hv, rv⟩ := atI_rel rs e
      exact ⟨a, vs, i, v, rfl, asI_snd ry h2, hs, hv, k.same m rv⟩
theorem ixd_str : IxD X sIx := by
  refine ⟨_, ix_str, fun F B ρ M H x y dx dy dz Q m rx ry e k => ?_⟩
  unfold sIx at e
  cases h1 : asS dx with
  | none => simp [h1] at e
  | some s =>
    cases h2 : asI dy with
    | none => simp [h1, h2] at e
    | some i =>
      simp only [h1, h2, Option.bind_some] at e
      split at e
      · next hz =>
        cases h3 : atI s.cps.toList i with
        | none => rw [h3] at e; cases e
        | some c =>
          rw [h3] at e
          obtain rfl := Option.some.inj e
          exact ⟨s, i, c, asS_snd rx h1, asI_snd ry h2, hz, h3, k.same m (.str _)⟩
      · cases e
def dIx : Op2 := oOr lIx (oOr tIx sIx)
theorem de_ix (ha : DE X W a f) (hb : DE X W b g) (hs : PlainIx b := by intro _ _; rfl) : DE X W (.Subscript a b pos) (xOp dIx f g) := by
  obtain ⟨r, ho, os⟩ : IxD X dIx := ixd_list.or (ixd_tup.or ixd_str)
  exact PE.imp (pe_ix ho ha hb hs) (op_snd os (fun _ _ _ q => q) fun _ _ _ q => q)

/-! ### slices -/
abbrev XO := Dv → Mem → R (Option Int)
def tO' (K : PySem.W.Frag) (mg : Str → Option Value) (W : WX) (f : XO) : TO := fun σ H Q => ∃ η F B ρ M, ER K B ρ η σ ∧ MR K F B ρ M H ∧ Wp K mg F B ρ (wAt W σ) (fun b _ _ H' => Q b H') (f η M)
def DO (X : Cx) (W : WX) (e : Option Expr) (f : XO) : Prop := PO X e (tO' X.K X.mg W f)
theorem PO.imp {e : Option Expr} {t t' : TO} (h : PO X e t) (i : ∀ σ H Q, t' σ H Q → t σ H Q) : PO X e t' := ⟨fun pins s σ H Q I q => h.run pins s σ H Q I (i σ H Q q)⟩
def xNone : XO := fun _ M => .ok none M
def xSome (f : XE) : XO := fun η M => (f η M).bind fun d M1 => (R.of (asI d) M1).bind fun i M2 => .ok (some i) M2
theorem do_none : DO X W none xNone := PO.imp po_none fun σ H Q z => by
  obtain ⟨η, F, B, ρ, M, er, m, w⟩ := z
  exact Wp.ret (P := fun b _ _ H' => Q b H') w m
theorem do_some (he : DE X W e f) : DO X W (some e) (xSome f) := PO.imp (po_some he) fun σ H Q z => by
  obtain ⟨η, F, B, ρ, M, er, m, w⟩ := z
  refine ⟨η, F, B, ρ, M, er, m, w.bind fun d M1 B1 ρ1 H1 l1 m1 w1 x rx => ?_⟩
  cases h : asI d with
  | none => rw [h] at w1; exact w1.elim
  | some i =>
    rw [h] at w1
    exact ⟨i, asI_snd rx h, Wp.ret (P := fun b _ _ H' => Q b H') w1 m1⟩
abbrev OpS := Mem → D → Option Int → Option Int → Option D
def SSnd (K : PySem.W.Frag) (r : V → Option Int → Option Int → Hp → VK → Prop) (h : OpS) : Prop := ∀ F B ρ M H x lo hi dx dz (Q : VK), MR K F B ρ M H → Rp K B ρ dx x → h M dx lo hi = some dz → Done K F B ρ M dz Q → r x lo hi H Q
def SlD (X : Cx) (h : OpS) : Prop := ∃ r, SlR X r ∧ SSnd X.K r h
def sOr (h h' : OpS) : OpS := fun M x lo hi => match h M x lo hi with
  | some z => some z
  | none => h' M x lo hi
theorem SlD.or {h h' : OpS} (a : SlD X h) (b : SlD X h') : SlD X (sOr h h') := by
  obtain ⟨r, o, s⟩ := a
  obtain ⟨r', o', s'⟩ := b
  refine ⟨_, SlR.or o o', fun F B ρ M H x lo hi dx dz Q m rx e k => ?_⟩
  unfold sOr at e
  split at e
  · next z hz => cases e; exact .inl (s F B ρ M H x lo hi dx _ Q m rx hz k)
  · exact .inr (s' F B ρ M H x lo hi dx dz Q m rx e k)
def cutD {α : Type} (xs : List α) (lo hi : Option Int) : List α := (xs.drop (HT.sIx xs.length 0 lo)).take (HT.sIx xs.length xs.length hi - HT.sIx xs.length 0 lo)
theorem cut_rel {K : PySem.W.Frag} {B : Hp} {ρ : List Addr} {ds : List D} {vs : List V} (r : Rps K B ρ ds vs) (lo hi : Option Int) : Rps K B ρ (cutD ds lo hi) (cutV vs lo hi) := by
  unfold cutD cutV
  rw [r.len]
  exact (r.drop _).take _
def lSl : OpS := fun M x lo hi => (asL M x).map fun ds => .lst (cutD ds lo hi)
def tSl' : OpS := fun _ x lo hi => (asT x).map fun ds => .tup (cutD ds lo hi)
def sSl : OpS := fun _ x lo hi => (asS x).bind fun s => if s.length ≤ sizeLine then some (.str (cutS s lo hi)) else none
theorem sld_list : SlD X lSl := by
  refine ⟨_, sl_list, fun F B ρ M H x lo hi dx dz Q m rx e k => ?_⟩
  unfold lSl at e
  cases h1 : asL M dx with
  | none => simp [h1] at e
  | some ds =>
    simp [h1] at e
    subst e
    obtain ⟨a, vs, rfl, hs, rs⟩ := asL_snd m rx h1
    exact ⟨a, vs, rfl, hs, k.newL m (cut_rel rs lo hi)⟩
theorem sld_tup : SlD X tSl' := by
  refine ⟨_, sl_tupA, fun F B ρ M H x lo hi dx dz Q m rx e k => ?_⟩
  unfold tSl' at e
  cases h1 : asT dx with
  | none => simp [h1] at e
  | some ds =>
    simp [h1] at e
    subst e
    obtain ⟨a, vs, rfl, hs, rs⟩ := asT_snd m rx h1
    refine ⟨a, vs, rfl, hs, fun z => ?_, fun _ => k.newT m (cut_rel rs lo hi)⟩
    have e2 : cutD ds lo hi = ds := by
      unfold cutD
      rw [rs.len, z.1, z.2]
      simp [← rs.len]
    rw [e2] at k
    cases dx <;> simp [asT] at h1
    subst h1
    exact k.same m rx
theorem sld_str : SlD X sSl := by
  refine ⟨_, sl_str, fun F B ρ M H x lo hi dx dz Q m rx e k => ?_⟩
  unfold sSl at e
  cases h1 : asS dx with
  | none => simp [h1] at e
  | some s =>
    simp only [h1, Option.bind_some] at e
    split at e
    · next hz =>
      obtain rfl := Option.some.inj e
      exact ⟨s, asS_snd rx h1, hz, k.same m (.str _)⟩
    · cases e
def dSl : OpS := sOr lSl (sOr tSl' sSl)
def xSl (h : OpS) (f : XE) (l u : XO) : XE := fun η M => (f η M).bind fun x M1 => (l η M1).bind fun lo M2 => (u η M2).bind fun hi M3 => R.of (h M3 x lo hi) M3
theorem de_sl {lo hi : Option Expr} {l u : XO} {p2 : Pos} (he : DE X W e f) (hl : DO X W lo l) (hu : DO X W hi u) : DE X W (.Subscript e (.Slice lo hi none p2) pos) (xSl dSl f l u) := by
  obtain ⟨r, ho, os⟩ : SlD X dSl := sld_list.or (sld_tup.or sld_str)
  refine PE.imp (pe_slice ho he hl hu) fun σ H Q z => ?_
  obtain ⟨η, F, B, ρ, M, er, m, w⟩ := z
  refine ⟨η, F, B, ρ, M, er, m, w.bind fun dx M1 B1 ρ1 H1 l1 m1 w1 x rx => ?_⟩
  refine ⟨η, F, B1, ρ1, M1, er.mono l1, m1, w1.bind fun o1 M2 B2 ρ2 H2 l2 m2 w2 => ?_⟩
  refine ⟨η, F, B2, ρ2, M2, er.mono (l1.trans l2), m2, w2.bind fun o2 M3 B3 ρ3 H3 l3 m3 w3 => ?_⟩
  obtain ⟨dz, hz, w4⟩ := w3.of
  exact os F B3 ρ3 M3 H3 x o1 o2 dx dz Q m3 (rx.mono (l2.trans l3)) hz (done_of w4)

/-! ### calls of what is built in -/
abbrev OpC := Mem → List D → Option D
def CSnd (K : PySem.W.Frag) (r : List V → Hp → VK → Prop) (h : OpC) : Prop := ∀ F B ρ M H xs ds dz (Q : VK), MR K F B ρ M H → Rps K B ρ ds xs → h M ds = some dz → Done K F B ρ M dz Q → r xs H Q
def CallD (X : Cx) (v : Value) (h : OpC) : Prop := ∃ r, CallR X v r ∧ CSnd X.K r h
def cOr (h h' : OpC) : OpC := fun M ds => match h M ds with
  | some z => some z
  | none => h' M ds
theorem CallD.or {v : Value} {h h' : OpC} (a : CallD X v h) (b : CallD X v h') : CallD X v (cOr h h') := by
  obtain ⟨r, o, s⟩ := a
  obtain ⟨r', o', s'⟩ := b
  refine ⟨_, CallR.or o o', fun F B ρ M H xs ds dz Q m rx e k => ?_⟩
  unfold cOr at e
  split at e
  · next z hz => cases e; exact .inl (s F B ρ M H xs ds _ Q m rx hz k)
  · exact .inr (s' F B ρ M H xs ds dz Q m rx e k)
def xCall (h : OpC) (g : XA) : XE := fun η M => (g η M).bind fun ds M1 => R.of (h M1 ds) M1
theorem call_snd {r : List V → Hp → VK → Prop} {h : OpC} (os : CSnd X.K r h) (σ : L2.St) (H : Hp) (Q : VK) (z : tE X.K X.mg W (xCall h fa) σ H Q) : tCB r (tA X.K X.mg W fa) σ H Q := by
  obtain ⟨η, F, B, ρ, M, er, m, w⟩ := z
  refine ⟨η, F, B, ρ, M, er, m, w.bind fun ds M1 B1 ρ1 H1 l1 m1 w1 xs rx => ?_⟩
  obtain ⟨dz, hz, w2⟩ := w1.of
  exact os F B1 ρ1 M1 H1 xs ds dz Q m1 rx hz (done_of w2)
theorem de_callB {x : Str} {id : String} {h : OpC} {p : Pos} (o : CallD X (.builtin id) h) (hg : Gl X x) (hm : X.mg x = none) (hv : bootBuiltins x = some (.builtin id)) (ha : DA X W (e :: es) fa) (hn : x ≠ "__name__" := by decide) (hdb : (x == ("__debug__" : Str)) = false := by decide)
    (hs : starEach (e :: es) X.env = (false, eval e X.env) :: starEach es X.env := by rfl) (hp : (backTo pos (starEach es X.env)).any (·.1) = false := by rfl) : DE X W (.Call (.Name x p) (e :: es) [] pos) (xCall h fa) := by
  obtain ⟨r, ho, os⟩ := o
  exact PE.imp (pe_callB ho hg hm hv ha hn hdb hs hp) (call_snd os)
theorem de_callTy {x : Str} {T : String} {h : OpC} {p : Pos} (o : CallD X (.type T) h) (hg : Gl X x) (hm : X.mg x = none) (hv : bootBuiltins x = some (.type T)) (ha : DA X W (e :: es) fa) (hn : x ≠ "__name__" := by decide) (hdb : (x == ("__debug__" : Str)) = false := by decide)
    (hs : starEach (e :: es) X.env = (false, eval e X.env) :: starEach es X.env := by rfl) (hp : (backTo pos (starEach es X.env)).any (·.1) = false := by rfl) : DE X W (.Call (.Name x p) (e :: es) [] pos) (xCall h fa) := by
  obtain ⟨r, ho, os⟩ := o
  exact PE.imp (pe_callTy ho hg hm hv ha hn hdb hs hp) (call_snd os)
/-! the built-ins on data -/
def one (h : Mem → D → Option D) : OpC := fun M ds => match ds with
  | [d] => h M d
  | _ => none
def two (h : Mem → D → D → Option D) : OpC := fun M ds => match ds with
  | [d, e] => h M d e
  | _ => none
theorem one_some {h : Mem → D → Option D} {M : Mem} {ds : List D} {z : D} (e : one h M ds = some z) : ∃ d, ds = [d] ∧ h M d = some z := by
  unfold one at e
  split at e
  · exact ⟨_, rfl, e⟩
  · cases e
theorem two_some {h : Mem → D → D → Option D} {M : Mem} {ds : List D} {z : D} (e : two h M ds = some z) : ∃ d c, ds = [d, c] ∧ h M d c = some z := by
  unfold two at e
  split at e
  · exact ⟨_, _, rfl, e⟩
  · cases e
def bAbs : OpC := one fun _ d => (asI d).map fun i => .int (if i < 0 then -i else i)
theorem cd_abs : CallD X (.builtin "abs") bAbs := by
  refine ⟨_, call_abs, fun F B ρ M H xs ds dz Q m rx e k => ?_⟩
  obtain ⟨d, rfl, h⟩ := one_some e
  cases rx with
  | cons r rr =>
    cases rr
    cases hi : asI d with
    | none => simp [hi] at h
    | some i =>
      simp [hi] at h
      subst h
      exact ⟨i, by rw [asI_snd r hi], k.same m (.int _)⟩
def bMax : OpC := two fun _ d c => (asI d).bind fun i => (asI c).bind fun j => some (.int (if j > i then j else i))
def bMin : OpC := two fun _ d c => (asI d).bind fun i => (asI c).bind fun j => some (.int (if j < i then j else i))
theorem cd_max (hc : X.calm = true) : CallD X (.builtin "max") bMax := by
  refine ⟨_, call_max2 hc, fun F B ρ M H xs ds dz Q m rx e k => ?_⟩
  obtain ⟨d, c, rfl, h⟩ := two_some e
  cases rx with
  | cons r rr =>
    cases rr with
    | cons r' rr =>
      cases rr
      cases hi : asI d with
      | none => simp [hi] at h
      | some i =>
        cases hj : asI c with
        | none => simp [hi, hj] at h
        | some j =>
          simp only [hi, hj, Option.bind_some] at h
          obtain rfl := Option.some.inj h
          exact ⟨i, j, by rw [asI_snd r hi, asI_snd r' hj], k.same m (.int _)⟩
theorem cd_min (hc : X.calm = true) : CallD X (.builtin "min") bMin := by
  refine ⟨_, call_min2 hc, fun F B ρ M H xs ds dz Q m rx e k => ?_⟩
  obtain ⟨d, c, rfl, h⟩ := two_some e
  cases rx with
  | cons r rr =>
    cases rr with
    | cons r' rr =>
      cases rr
      cases hi : asI d with
      | none => simp [hi] at h
      | some i =>
        cases hj : asI c with
        | none => simp [hi, hj] at h
        | some j =>
          simp only [hi, hj, Option.bind_some] at h
          obtain rfl := Option.some.inj h
          exact ⟨i, j, by rw [asI_snd r hi, asI_snd r' hj], k.same m (.int _)⟩
/-- int of an int or a truth -/
def bInt : OpC := one fun _ d => match d with
  | .int i => some (.int i)
  | .bl b => some (.int (if b then 1 else 0))
  | _ => none
theorem cd_int : CallD X (.type "int") bInt := by
  refine ⟨_, call_int1, fun F B ρ M H xs ds dz Q m rx e k => ?_⟩
  obtain ⟨d, rfl, h⟩ := one_some e
  cases rx with
  | cons r rr =>
    cases rr
    split at h
    · obtain rfl := Option.some.inj h
      cases r
      exact .inl ⟨_, rfl, k.same m (.int _)⟩
    · obtain rfl := Option.some.inj h
      cases r
      exact .inr ⟨_, rfl, k.same m (.int _)⟩
    · cases h
/-- how many -/
def lenD (M : Mem) (d : D) : Option Nat := match asL M d with
  | some ds => some ds.length
  | none => match asT d with
    | some ds => some ds.length
    | none => match asS d with
      | some s => if s.length ≤ sizeLine then some s.length else none
      | none => none
def bLen : OpC := one fun M d => (lenD M d).map fun n => .int n
theorem cd_len : CallD X (.builtin "len") bLen := by
  refine ⟨_, call_len_seq.or call_len_str, fun F B ρ M H xs ds dz Q m rx e k => ?_⟩
  obtain ⟨d, rfl, h⟩ := one_some e
  cases rx with
  | cons r rr =>
    cases rr
    unfold lenD at h
    split at h
    · next es he =>
      simp at h
      subst h
      obtain ⟨a, vs, rfl, hs, rs⟩ := asL_snd m r he
      exact .inl ⟨a, vs, rfl, .inl hs, by rw [← rs.len]; exact k.same m (.int _)⟩
    · split at h
      · next es he =>
        simp at h
        subst h
        obtain ⟨a, vs, rfl, hs, rs⟩ := asT_snd m r he
        exact .inl ⟨a, vs, rfl, .inr hs, by rw [← rs.len]; exact k.same m (.int _)⟩
      · split at h
        · next s he =>
          split at h
          · next hz =>
            simp at h
            subst h
            rw [asS_snd r he]
            exact .inr ⟨s, rfl, hz, k.same m (.int _)⟩
          · simp at h
        · simp at h
/-- all truths -/
def asBs : List D → Option (List Bool)
  | [] => some []
  | d :: ds => (asB d).bind fun b => (asBs ds).map (b :: ·)
theorem asBs_snd {K : PySem.W.Frag} {B : Hp} {ρ : List Addr} : ∀ {ds : List D} {vs : List V} {bs : List Bool}, Rps K B ρ ds vs → asBs ds = some bs → vs = bs.map V.bl
  | _, _, _, .nil, h => by cases h; rfl
  | _, _, bs, .cons (d := d) (ds := ds) r t, h => by
    unfold asBs at h
    cases h1 : asB d with
    | none => simp [h1] at h
    | some b =>
      cases h2 : asBs ds with
      | none => simp [h1, h2] at h
      | some cs =>
        simp [h1, h2] at h
        subst h
        rw [asBs_snd t h2]
        rw [asB_some h1] at r
        cases r
        rfl
def bAll : OpC := one fun M d => (asL M d).bind fun ds => (asBs ds).map fun bs => .bl (bs.all id)
theorem cd_all (hc : X.calm = true) : CallD X (.builtin "all") bAll := by
  refine ⟨_, cr_all hc, fun F B ρ M H xs ds dz Q m rx e k => ?_⟩
  obtain ⟨d, rfl, h⟩ := one_some e
  cases rx with
  | cons r rr =>
    cases rr
    cases h1 : asL M d with
    | none => simp [h1] at h
    | some es =>
      cases h2 : asBs es with
      | none => simp [h1, h2] at h
      | some bs =>
        simp only [h1, h2, Option.bind_some, Option.map_some] at h
        obtain rfl := Option.some.inj h
        obtain ⟨a, vs, rfl, hs, rs⟩ := asL_snd m r h1
        have := asBs_snd rs h2
        subst this
        exact ⟨a, bs, rfl, hs, k.same m (.bl _)⟩
def bTuple : OpC := one fun M d => match asL M d with
  | some ds => some (.tup ds)
  | none => (asT d).map fun ds => .tup ds
theorem cd_tuple : CallD X (.type "tuple") bTuple := by
  refine ⟨_, call_tuple_of, fun F B ρ M H xs ds dz Q m rx e k => ?_⟩
  obtain ⟨d, rfl, h⟩ := one_some e
  cases rx with
  | cons r rr =>
    cases rr
    split at h
    · next es he =>
      obtain rfl := Option.some.inj h
      obtain ⟨a, vs, rfl, hs, rs⟩ := asL_snd m r he
      exact ⟨a, vs, rfl, .inl ⟨hs, k.newT m rs⟩⟩
    · cases h2 : asT d with
      | none => simp [h2] at h
      | some es =>
        simp [h2] at h
        subst h
        have r2 := r
        obtain ⟨a, vs, rfl, hs, rs⟩ := asT_snd m r h2
        cases d <;> simp [asT] at h2
        subst h2
        exact ⟨a, vs, rfl, .inr ⟨hs, k.same m r2⟩⟩
/-- the class of a thing, by name -/
def tyN (M : Mem) : D → Option String
  | .non => some "NoneType"
  | .bl _ => some "bool"
  | .int _ => some "int"
  | .str _ => some "str"
  | .lst _ => some "list"
  | .tup _ => some "tuple"
  | .dct _ => some "dict"
  | .ptr n => match M[n]? with
    | some (.lst _) => some "list"
    | some (.dK _) => some "dict"
    | some (.dT _) => some "dict"
    | _ => none
  | _ => none
theorem tyN_snd {K : PySem.W.Frag} {F B H : Hp} {ρ : List Addr} {M : Mem} (m : MR K F B ρ M H) {d : D} {v : V} {t : String} (r : Rp K B ρ d v) (h : tyN M d = some t) : TyX K H v (.type t) := by
  cases r with
  | non => cases h; exact .base .non
  | bl b => cases h; exact .base (.bl b)
  | int i => cases h; exact .base (.int i)
  | str s => cases h; exact .base (.str s)
  | lst e q => cases h; exact .base (.lst (m.ex _ _ e))
  | tup e q =>
    cases h
    rcases ex_t m.ex e with (e | ⟨o, e⟩) | ⟨o, its, n, e1, e2, _⟩
    · exact .base (.tup e)
    · exact .fTuple e
    · exact .kTuple e1 e2
  | dct e q => cases h; exact .fDict (m.ex _ _ e)
  | dcT e q => cases h
  | ins c e q => cases h
  | fn c => cases h
  | scr e => cases h
  | @ptr n a ha =>
    have h' : (match M[n]? with | some (.lst _) => some "list" | some (.dK _) => some "dict" | some (.dT _) => some "dict" | _ => none) = some t := h
    split at h'
    · next ds hm =>
      cases h'
      obtain ⟨b, hb, _, vs, e, _⟩ := m.ob n _ hm
      rw [ha] at hb
      cases hb
      exact .base (.lst e)
    · next ds hm =>
      cases h'
      obtain ⟨b, hb, _, vs, e, _⟩ := m.ob n _ hm
      rw [ha] at hb
      cases hb
      exact .base (.dK e)
    · next ds hm =>
      cases h'
      obtain ⟨b, hb, _, vs, e, _⟩ := m.ob n _ hm
      rw [ha] at hb
      cases hb
      exact .base (.dT e)
    · cases h'
  | raw v => cases h
/-- sorted of texts -/
def asSs : List D → Option (List Str)
  | [] => some []
  | d :: ds => (asS d).bind fun b => (asSs ds).map (b :: ·)
theorem asSs_snd {K : PySem.W.Frag} {B : Hp} {ρ : List Addr} : ∀ {ds : List D} {vs : List V} {bs : List Str}, Rps K B ρ ds vs → asSs ds = some bs → vs = bs.map V.str
  | _, _, _, .nil, h => by cases h; rfl
  | _, _, bs, .cons (d := d) (ds := ds) r t, h => by
    unfold asSs at h
    cases h1 : asS d with
    | none => simp [h1] at h
    | some b =>
      cases h2 : asSs ds with
      | none => simp [h1, h2] at h
      | some cs =>
        simp [h1, h2] at h
        subst h
        rw [asSs_snd t h2, asS_snd r h1]
        rfl
theorem rps_strs {K : PySem.W.Frag} {B : Hp} {ρ : List Addr} : ∀ (ns : List Str), Rps K B ρ (ns.map D.str) (ns.map V.str)
  | [] => .nil
  | n :: ns => .cons (.str n) (rps_strs ns)
end
end Dn

namespace Dn
open PySem L2 Evl
section
variable {X : Cx} {W : WX} {a b c e o tg : Expr} {es : List Expr} {f g k : XE} {fa : XA} {p : XT} {pos : Pos}
/-! ### targets -/
def xgName (i : Nat) : XG := fun d η M => .ok (η.set i (some d)) M
theorem dg_name {i : Nat} {x : Str} (hN : X.N.Nodup) (hi : X.N[i]? = some x := by rfl) (hx : Loc X.env.scope x := by first | exact Or.inl rfl | exact Or.inr rfl) (hf : X.fn x = true ∨ X.env.scope.names.lookup x = some .local := by first | exact .inl rfl | exact .inr rfl | assumption) : DG X W (.Name x pos) [i] (xgName i) :=
  PG.imp (pg_name hN hi hx hf) fun v σ H Q z => by
    obtain ⟨d, η, F, B, ρ, M, r, e, m, w⟩ := z
    exact Wp.ret w m _ (e.set i r) (Off.set i _ σ)
def xgsNil : List D → Dv → Mem → R Dv := fun ds η M => match ds with
  | [] => .ok η M
  | _ => .no
def xgsCons (g : XG) (gs : List D → Dv → Mem → R Dv) : List D → Dv → Mem → R Dv := fun ds η M => match ds with
  | d :: r => (g d η M).bind fun η' M1 => gs r η' M1
  | [] => .no
theorem dgs_nil : DGs X W [] [] xgsNil := PGs.imp pgs_nil fun v σ H Q z => by
  obtain ⟨ds, η, F, B, ρ, M, r, e, m, w⟩ := z
  cases r with
  | nil => exact ⟨rfl, Wp.ret w m _ e (Off.refl _ _)⟩
  | cons r rr => exact w.elim
theorem dgs_cons {ts us : List Nat} {g : XG} {gs : List D → Dv → Mem → R Dv} (h1 : DG X W e ts g) (h2 : DGs X W es us gs) (hs : (assignEach (e :: es) X.env).map (·.2) = assign e X.env :: (assignEach es X.env).map (·.2) := by rfl) :
    DGs X W (e :: es) (ts ++ us) (xgsCons g gs) := PGs.imp (pgs_cons h1 h2 hs) fun v σ H Q z => by
  obtain ⟨ds, η, F, B, ρ, M, r, er, m, w⟩ := z
  cases r with
  | nil => exact w.elim
  | @cons d v ds vs r rr =>
    have w : Wp X.K X.mg F B ρ (wAll W) _ ((g d η M).bind fun η' M1 => gs ds η' M1) := w
    refine ⟨v, vs, rfl, d, η, F, B, ρ, M, r, er, m, w.bind fun η1 M1 B1 ρ1 H1 l1 m1 w1 σ1 e1 o1 => ?_⟩
    exact ⟨ds, η1, F, B1, ρ1, M1, rr.mono l1, e1, m1, w1.imp fun η2 B2 ρ2 H2 l2 q σ2 e2 o2 => q σ2 e2 (o1.trans o2)⟩
def xgTup (n : Nat) (gs : List D → Dv → Mem → R Dv) : XG := fun d η M => match asT d with
  | some ds => if ds.length = n then gs ds η M else .no
  | none => .no
theorem dg_tup {kk : Nat} {ts : List Nat} {n : Nat} {gs : List D → Dv → Mem → R Dv} (hc : X.calm = true) (h : DGs X W es ts gs) (hn : (assignEach es X.env).length = n := by rfl) (hst : (assignEach es X.env).findIdx? (·.1) = none := by rfl) :
    DG X W (.Tuple es kk pos) ts (xgTup n gs) := PG.imp (pg_tup hc h hn hst) fun v σ H Q z => by
  obtain ⟨d, η, F, B, ρ, M, r, er, m, w⟩ := z
  unfold xgTup at w
  split at w
  · next ds hd =>
    split at w
    · next hl =>
      obtain ⟨a, vs, rfl, hs, rs⟩ := asT_snd m r hd
      exact ⟨a, vs, rfl, hs, by rw [← rs.len]; exact hl, ds, η, F, B, ρ, M, rs, er, m, w⟩
    · exact w.elim
  · exact w.elim

/-! ### blocks, small statements -/
def xNx : XS := fun η M => .ok (.nx η) M
def thenS (g : XS) : Fl → Mem → R Fl := fun fl M => match fl with
  | .nx η => g η M
  | .rt d => .ok (.rt d) M
  | .bk η => .ok (.bk η) M
  | .ct η => .ok (.ct η) M
def xSeq (f g : XS) : XS := fun η M => (f η M).bind (thenS g)
variable {st : Stmt} {rest : List Stmt} {s u : XS}
theorem dss_nil : DSs X W [] xNx := PSs.imp pss_nil fun E σ H z => by
  obtain ⟨η, F, B, ρ, M, er, m, w⟩ := z
  exact Wp.ret (P := FlP X.K E) w m σ er
theorem dss_one (h : DS X W st s) : DSs X W [st] s := PSs.imp (pss_one h) fun E σ H z => z
theorem dss_cons (h1 : DS X W st s) (h2 : DSs X W rest u) : DSs X W (st :: rest) (xSeq s u) := PSs.imp (pss_cons h1 h2) fun E σ H z => by
  obtain ⟨η, F, B, ρ, M, er, m, w⟩ := z
  refine ⟨η, F, B, ρ, M, er, m, w.bind fun fl M1 B1 ρ1 H1 l1 m1 w1 => ?_⟩
  cases fl with
  | nx η' => exact fun σ' e' => ⟨η', F, B1, ρ1, M1, e', m1, w1⟩
  | rt d => exact Wp.ret (P := FlP X.K E) w1 m1
  | bk η' => exact Wp.ret (P := FlP X.K E) w1 m1
  | ct η' => exact Wp.ret (P := FlP X.K E) w1 m1
def xRet (f : XE) : XS := fun η M => (f η M).bind fun d M1 => .ok (.rt d) M1
theorem ds_ret (he : DE X W e f) : DS X W (.Return (some e) pos) (xRet f) := PS.imp (ps_ret he) fun E σ H z => by
  obtain ⟨η, F, B, ρ, M, er, m, w⟩ := z
  exact ⟨η, F, B, ρ, M, er, m, w.bind fun d M1 B1 ρ1 H1 l1 m1 w1 v rv => Wp.ret (P := FlP X.K E) w1 m1 v rv⟩
def xIfS (p : XT) (s u : XS) : XS := fun η M => (p η M).bind fun b M1 => if b = true then s η M1 else u η M1
theorem ds_if {c : Expr} {xs ys : List Stmt} (hc : DT X W c p) (ha : DSs X W xs s) (hb : DSs X W ys u) : DS X W (.If c xs ys pos) (xIfS p s u) := PS.imp (ps_if hc ha hb) fun E σ H z => by
  obtain ⟨η, F, B, ρ, M, er, m, w⟩ := z
  refine ⟨η, F, B, ρ, M, er, m, w.bind fun t M1 B1 ρ1 H1 l1 m1 w1 => ?_⟩
  cases t with
  | true => exact ⟨η, F, B1, ρ1, M1, er.mono l1, m1, w1⟩
  | false => exact ⟨η, F, B1, ρ1, M1, er.mono l1, m1, w1⟩
/-! ### assignments -/
def xAsg (f : XE) (g : XG) : XS := fun η M => (f η M).bind fun d M1 => (g d η M1).bind fun η' M2 => .ok (.nx η') M2
theorem asg_snd {ts : List Nat} {g : XG} (E : Ends) (σ : L2.St) (H : Hp) (z : tS X.K X.mg W (xAsg f g) E σ H) : tE X.K X.mg W f σ H fun x H1 => tG X.K X.mg W ts g x σ H1 E.nx := by
  obtain ⟨η, F, B, ρ, M, er, m, w⟩ := z
  refine ⟨η, F, B, ρ, M, er, m, w.bind fun d M1 B1 ρ1 H1 l1 m1 w1 v rv => ?_⟩
  exact ⟨d, η, F, B1, ρ1, M1, rv, er.mono l1, m1, w1.bind fun η' M2 B2 ρ2 H2 l2 m2 w2 σ' e' _ => Wp.ret (P := FlP X.K E) w2 m2 σ' e'⟩
theorem ds_asg {ts : List Nat} {g : XG} (he : DE X W e f) (hg : DG X W tg ts g) (hs : swapsWithSole [tg] e pos.line X.env = pure false := by rfl) (hw : swappedStores [tg] e X.env = pure none := by rfl)
    (h1 : (assignEach [tg] X.env).map (·.2) = [assign tg X.env] := by rfl) : DS X W (.Assign [tg] e pos) (xAsg f g) := PS.imp (ps_asg he hg hs hw h1) asg_snd
theorem set_snd {i : Nat} (E : Ends) (σ : L2.St) (H : Hp) (z : tS X.K X.mg W (xAsg f (xgName i)) E σ H) : tE X.K X.mg W f σ H fun x H1 => gName i x σ H1 E.nx := by
  obtain ⟨η, F, B, ρ, M, er, m, w⟩ := z
  exact ⟨η, F, B, ρ, M, er, m, w.bind fun d M1 B1 ρ1 H1 l1 m1 w1 v rv => Wp.ret (P := FlP X.K E) w1 m1 _ ((er.mono l1).set i rv)⟩
theorem ds_set {i : Nat} {x : Str} {pos' : Pos} (hN : X.N.Nodup) (he : DE X W e f) (hi : X.N[i]? = some x := by rfl) (hx : Loc X.env.scope x := by first | exact Or.inl rfl | exact Or.inr rfl) (hs : swapsWith e (some (.Name x pos')) pos.line X.env = pure false := by rfl)
    (hf : X.fn x = true ∨ X.env.scope.names.lookup x = some .local := by first | exact .inl rfl | exact .inr rfl | assumption) : DS X W (.Assign [.Name x pos'] e pos) (xAsg f (xgName i)) := PS.imp (ps_set hN hi hx he hs hf) set_snd
/-- a, b = x, y -/
def xPar (i j : Nat) (f g : XE) : XS := fun η M => (f η M).bind fun d M1 => (g η M1).bind fun c M2 => .ok (.nx ((η.set i (some d)).set j (some c))) M2
/-- xs[i] = v of a list that may change -/
def xSetL (v o i : XE) : XS := fun η M => (v η M).bind fun d M1 => (o η M1).bind fun l M2 => (i η M2).bind fun z M3 => match l, z with
  | .ptr n, .int j => match M3[n]? with
    | some (.lst ds) => match ixN ds.length j with
      | some q => .ok (.nx η) (M3.set n (.lst (ds.set q d)))
      | none => .no
    | _ => .no
  | _, _ => .no
theorem ds_setL {ti v : Expr} {h : XE} (he : DE X W v h) (ho : DE X W o f) (hi : DE X W ti g) (hw : swappedStores [.Subscript o ti pos] v X.env = pure none := by rfl)
    {spos : Pos} (hs' : swapsWithSole [.Subscript o ti pos] v spos.line X.env = pure false := by rfl)
    (h1 : (assignEach [.Subscript o ti pos] X.env).map (·.2) = [assign (.Subscript o ti pos) X.env] := by rfl)
    (hp : ∀ v, assign (.Subscript o ti pos) X.env v = (do
      let ov ← holding [v] (eval o X.env)
      let iv ← holding [v, ov] (eval ti X.env)
      standAt pos
      holding [v, ov, iv] (setItem ov iv v)
      release [v, ov, iv] []) := by intro _; rfl) : DS X W (.Assign [.Subscript o ti pos] v spos) (xSetL h f g) := PS.imp (ps_asg he (pg_sub ho hi set_list hp) hs' hw h1) fun E σ H z => by
  obtain ⟨η, F, B, ρ, M, er, m, w⟩ := z
  refine ⟨η, F, B, ρ, M, er, m, w.bind fun d M1 B1 ρ1 H1 l1 m1 w1 x rx => ?_⟩
  refine ⟨η, F, B1, ρ1, M1, er.mono l1, m1, w1.bind fun dl M2 B2 ρ2 H2 l2 m2 w2 y ry => ?_⟩
  refine ⟨η, F, B2, ρ2, M2, er.mono (l1.trans l2), m2, w2.bind fun dz M3 B3 ρ3 H3 l3 m3 w3 z rz => ?_⟩
  split at w3
  · next n j =>
    split at w3
    · next ds hm =>
      split at w3
      · next q hq =>
        cases rz
        have ry3 := ry.mono l3
        cases ry3 with
        | @ptr _ a ha =>
          obtain ⟨vs, hH, rs, hB⟩ := m3.list ha hm
          refine ⟨a, vs, j, q, rfl, rfl, hH, by rw [← rs.len]; exact hq, ?_⟩
          have m4 := m3.put (o := .lst (vs.set q x)) (ob := .lst (ds.set q d)) ha hm (by intro z; cases z) ⟨_, upd_same, rs.set q (rx.mono (l2.trans l3))⟩
          exact w3 _ _ _ (Le.refl _ _) m4 σ (er.mono ((l1.trans l2).trans l3))
      · exact w3.elim
    · exact w3.elim
  · exact w3.elim
end
end Dn

namespace Dn
open PySem L2 Evl
section
variable {X : Cx} {W : WX} {a b c e o tg it : Expr} {es : List Expr} {f g k : XE} {fa : XA} {p : XT} {pos : Pos}
/-! ### what is walked -/
def xRng (g : XA) : XI := fun η M => (g η M).bind fun ds M1 => match ds with
  | [.int j] => if -(2 ^ 62) ≤ j ∧ j < 2 ^ 62 then .ok ((List.range j.toNat).map fun i => .int (i : Nat)) M1 else .no
  | _ => .no
theorem walk_rng {K : PySem.W.Frag} {B : Hp} {ρ : List Addr} {n : Nat} : WalkD K (Itr 0 n) B ρ ((List.range n).map fun i => .int (i : Nat)) := by
  refine ⟨⟨fun _ => True, _, by simpa using walk_range, fun _ _ => trivial, fun i d h F B1 ρ1 M H x H2 l m y => ?_⟩⟩
  obtain ⟨rfl, rfl⟩ := y
  refine ⟨B1, Le.refl _ _, m, ?_, Ex.refl _⟩
  rw [List.getElem?_map] at h
  cases hr : (List.range n)[i]? with
  | none => rw [hr] at h; cases h
  | some q =>
    rw [hr] at h
    simp at h
    have : q = i := by
      have := (List.getElem?_eq_some_iff.mp hr).2
      simpa using this.symm
    subst this
    rw [← h]
    simpa using Rp.int (K := K) (B := B1) (ρ := ρ1) ((q : Nat) : Int)
theorem di_range1 {p0 pos : Pos} (hg : Gl X "range") (hm : X.mg "range" = none) (ha : DA X W [a] fa) (hs : starEach [a] X.env = [(false, eval a X.env)] := by rfl) : DI X W tg (.Call (.Name "range" p0) [a] [] pos) (xRng fa) :=
  PI.imp (pi_range1 hg hm ha hs) fun σ H Q z => by
    obtain ⟨η, F, B, ρ, M, er, m, w⟩ := z
    refine ⟨η, F, B, ρ, M, er, m, w.bind fun ds M1 B1 ρ1 H1 l1 m1 w1 vs rv => ?_⟩
    split at w1
    · next j =>
      split at w1
      · next hj =>
        cases rv with
        | cons r rr =>
          cases rr
          cases r
          exact ⟨j, rfl, hj.1, hj.2, Wp.ret w1 m1 _ walk_rng⟩
      · exact w1.elim
    · exact w1.elim
/-- the items of a list, a tuple, a text that stay -/
def itemsD : D → Option (List D)
  | .lst ds => some ds
  | .scr ns => some (ns.map D.int)
  | .tup ds => some ds
  | .str s => some (s.cps.toList.map fun c => .str ⟨#[c]⟩)
  | _ => none
def xSq (f : XE) : XI := fun η M => (f η M).bind fun d M1 => R.of (itemsD d) M1
theorem PI.or {t t' : TI} (h : PI X tg it t) (h' : PI X tg it t') : PI X tg it (fun σ H Q => t σ H Q ∨ t' σ H Q) := ⟨fun pins s σ H Q I q => q.elim (h.run pins s σ H Q I) (h'.run pins s σ H Q I)⟩
theorem walk_at {K : PySem.W.Frag} {J : It} {G : Hp → Prop} {B : Hp} {ρ : List Addr} {ds : List D} {vs : List V} (w : Walk J vs.length G (YAt vs)) (hG : ∀ H, Ex B H → G H) (r : Rps K B ρ ds vs) : WalkD K J B ρ ds := by
  refine ⟨⟨G, YAt vs, by rw [r.len]; exact w, hG, fun i d h F B1 ρ1 M H x H2 l m y => ?_⟩⟩
  obtain ⟨rfl, hx⟩ := y
  obtain ⟨v, h1, h2⟩ := r.get h
  rw [hx] at h1
  cases h1
  exact ⟨B1, Le.refl _ _, m, h2.mono l, Ex.refl _⟩
theorem di_sq (he : DE X W it f) : DI X W tg it (xSq f) :=
  PI.imp (PI.or (pi_list he) (PI.or (pi_tup he) (pi_str he))) fun σ H Q z => by
    obtain ⟨η, F, B, ρ, M, er, m, w⟩ := z
    unfold xSq at w
    cases hr : f η M with
    | no => rw [hr] at w; exact w.elim
    | ex e1 M1 =>
      rw [hr] at w
      refine .inl ⟨η, F, B, ρ, M, er, m, ?_⟩
      rw [hr]
      exact w
    | ok d M1 =>
      rw [hr] at w
      have w : Wp X.K X.mg F B ρ (wAt W σ) _ (R.of (itemsD d) M1) := w
      obtain ⟨ds, hd, w1⟩ := w.of
      cases d with
      | lst xs =>
        cases hd
        refine .inl ⟨η, F, B, ρ, M, er, m, ?_⟩
        rw [hr]
        intro B' ρ' H' l m' v rv
        cases rv with
        | lst e1 r1 => exact ⟨_, rfl, ⟨_, sq_of (m'.ex _ _ e1)⟩, w1 B' ρ' H' l m' _ (walk_at walk_list (fun H hH => sq_of (hH _ _ e1)) r1)⟩
      | scr ns =>
        cases hd
        refine .inl ⟨η, F, B, ρ, M, er, m, ?_⟩
        rw [hr]
        intro B' ρ' H' l m' v rv
        cases rv with
        | scr e1 => exact ⟨_, rfl, ⟨_, ex_l m'.ex e1⟩, w1 B' ρ' H' l m' _ (walk_at walk_list (fun H hH => ex_l hH e1) (rps_ints ns))⟩
      | tup xs =>
        cases hd
        refine .inr (.inl ⟨η, F, B, ρ, M, er, m, ?_⟩)
        rw [hr]
        intro B' ρ' H' l m' v rv
        cases rv with
        | tup e1 r1 => exact ⟨_, rfl, ⟨_, ex_t m'.ex e1⟩, w1 B' ρ' H' l m' _ (walk_at walk_tup (fun H hH => ex_t hH e1) r1)⟩
      | str s =>
        cases hd
        refine .inr (.inr ⟨η, F, B, ρ, M, er, m, ?_⟩)
        rw [hr]
        intro B' ρ' H' l m' v rv
        cases rv
        refine ⟨s, rfl, w1 B' ρ' H' l m' _ ⟨⟨fun _ => True, _, by simpa using walk_str, fun _ _ => trivial, fun i d h F B1 ρ1 M H x H2 l m y => ?_⟩⟩⟩
        obtain ⟨rfl, c, hc, rfl⟩ := y
        refine ⟨B1, Le.refl _ _, m, ?_, Ex.refl _⟩
        rw [List.getElem?_map] at h
        have hc' : s.cps.toList[i]? = some c := by simpa using hc
        rw [hc'] at h
        simp at h
        rw [← h]
        exact .str _
      | non => cases hd
      | bl _ => cases hd
      | int _ => cases hd
      | dct _ => cases hd
      | dcT _ => cases hd
      | ins _ _ => cases hd
      | fn _ => cases hd
      | ptr _ => cases hd
      | raw _ => cases hd
/-- pairs -/
def xZip (g : XA) : XI := fun η M => (g η M).bind fun ds M1 => match ds with
  | [.lst xs, .lst ys] => .ok (xs.zip ys |>.map fun q => .tup [q.1, q.2]) M1
  | [.tup xs, .tup ys] => .ok (xs.zip ys |>.map fun q => .tup [q.1, q.2]) M1
  | _ => .no
theorem walk_pair {K : PySem.W.Frag} {J : It} {G : Hp → Prop} {B : Hp} {ρ : List Addr} {ds es : List D} {vs us : List V} (w : Walk J (min vs.length us.length) G (YPair (fun i => vs[i]?) (fun i => us[i]?))) (hG : ∀ H, Ex B H → G H) (r : Rps K B ρ ds vs) (r' : Rps K B ρ es us) :
    WalkD K J B ρ (ds.zip es |>.map fun q => .tup [q.1, q.2]) := by
  refine ⟨⟨G, _, by rw [List.length_map, List.length_zip, r.len, r'.len]; exact w, hG, fun i d h F B1 ρ1 M H x H2 l m y => ?_⟩⟩
  obtain ⟨T, x1, y1, rfl, hT, rfl, hx, hy⟩ := y
  rw [List.getElem?_map] at h
  cases hz : (ds.zip es)[i]? with
  | none => rw [hz] at h; cases h
  | some q =>
    rw [hz] at h
    simp at h
    have hz' := List.getElem?_zip_eq_some.mp hz
    obtain ⟨v1, h1, h2⟩ := r.get hz'.1
    obtain ⟨v2, h3, h4⟩ := r'.get hz'.2
    have hx' : vs[i]? = some x1 := hx
    have hy' : us[i]? = some y1 := hy
    rw [hx'] at h1
    rw [hy'] at h3
    cases h1
    cases h3
    obtain ⟨m', l'⟩ := m.new (o := .tup [x1, y1]) hT
    refine ⟨_, l', m', ?_, Ex.new hT⟩
    rw [← h]
    exact .tup (st_of upd_same) (.cons (h2.mono (l.trans l')) (.cons (h4.mono (l.trans l')) .nil)) (.inr upd_same)
theorem walk_zipT {K : PySem.W.Frag} {a b : Addr} {xs ys : List V} : Walk (RZ.ItzT K a b) (min xs.length ys.length) (fun H => SqT K H a xs ∧ SqT K H b ys) (YPair (fun i => xs[i]?) (fun i => ys[i]?)) := by
  refine ⟨fun i _ hi q => ?_, fun _ q => ⟨xs, ys, q.1, q.2, by omega⟩, fun i H v H' _ q y => ?_⟩
  · have h1 : i < xs.length := by omega
    have h2 : i < ys.length := by omega
    exact ⟨xs, ys, xs[i], ys[i], q.1, q.2, by simp [h1], by simp [h2]⟩
  · obtain ⟨T, x, z, h1, h2, h3, h4, h5⟩ := y
    exact ⟨T, x, z, h1, h2, h3, h4 xs q.1, h5 ys q.2⟩
theorem di_zip {e2 : Expr} {p0 pos tpos : Pos} {elts : List Expr} {kk : Nat} (hg : Gl X "zip") (hm : X.mg "zip" = none) (ha : DA X W [e, e2] fa)
    (hs : starEach [e, e2] X.env = (false, eval e X.env) :: starEach [e2] X.env := by rfl) (hpl : (backTo pos (starEach [e2] X.env)).any (·.1) = false := by rfl) : DI X W (.Tuple elts kk tpos) (.Call (.Name "zip" p0) [e, e2] [] pos) (xZip fa) :=
  PI.imp (RZ.pi_zipA hg hm ha hs hpl) fun σ H Q z => by
    obtain ⟨η, F, B, ρ, M, er, m, w⟩ := z
    refine ⟨η, F, B, ρ, M, er, m, w.bind fun ds M1 B1 ρ1 H1 l1 m1 w1 vs rv => ?_⟩
    split at w1
    · next xs ys =>
      cases rv with
      | cons r rr =>
        cases rr with
        | cons r' rr =>
          cases rr
          cases r with
          | lst e1 q1 =>
            cases r' with
            | lst e2 q2 =>
              exact ⟨_, _, _, _, rfl, .inl ⟨sq_of (m1.ex _ _ e1), sq_of (m1.ex _ _ e2), Wp.ret w1 m1 _ (walk_pair (walk_zip rfl) (fun H hH => ⟨sq_of (hH _ _ e1), sq_of (hH _ _ e2)⟩) q1 q2)⟩⟩
    · next xs ys =>
      cases rv with
      | cons r rr =>
        cases rr with
        | cons r' rr =>
          cases rr
          cases r with
          | tup e1 q1 =>
            cases r' with
            | tup e2 q2 =>
              exact ⟨_, _, _, _, rfl, .inr ⟨ex_t m1.ex e1, ex_t m1.ex e2, Wp.ret w1 m1 _ (walk_pair walk_zipT (fun H hH => ⟨ex_t hH e1, ex_t hH e2⟩) q1 q2)⟩⟩
    · exact w1.elim

/-! ### for -/
def xForL (g : XG) (body : XS) : List D → Dv → Mem → R Fl
  | [], η, M => .ok (.nx η) M
  | d :: ds, η, M => (g d η M).bind fun η' M1 => (body η' M1).bind fun fl M2 => match fl with
    | .nx η2 => xForL g body ds η2 M2
    | .ct η2 => xForL g body ds η2 M2
    | .bk η2 => .ok (.nx η2) M2
    | .rt v => .ok (.rt v) M2
def xFor (i : XI) (g : XG) (body : XS) : XS := fun η M => (i η M).bind fun ds M1 => xForL g body ds η M1
theorem ds_for {body : List Stmt} {fi : XI} {ts : List Nat} {gt : XG} {s : XS} (hp : PassesOwn (model X.prog X.w) X.A X.env X.xe) (hc : X.calm = true) (hi : DI X W tg it fi) (hg : DG X W tg ts gt) (hb : DSs X W body s)
    (hs : ∀ x, foldedSetIterable it X.env x = pure x := by intro _; rfl) : DS X W (.For tg it body [] pos) (xFor fi gt s) := PS.imp (ps_for hp hc hi hg hb hs) fun E σ H z => by
  obtain ⟨η, F, B, ρ, M, er, m, w⟩ := z
  refine ⟨η, F, B, ρ, M, er, m, w.bind fun ds M1 B1 ρ1 H1 l1 m1 w1 J wd => ?_⟩
  obtain ⟨G, Y, wk, hG, hY⟩ := wd.w
  refine for_it wk (fun i σ' H' => ∃ η' B' ρ' M', ER X.K B' ρ' η' σ' ∧ MR X.K F B' ρ' M' H' ∧ Le B1 ρ1 B' ρ' ∧ Wp X.K X.mg F B' ρ' (wAll W) (FlP X.K E) (xForL gt s (ds.drop i) η' M')) ⟨η, B1, ρ1, M1, er.mono l1, m1, Le.refl _ _, by simpa using w1⟩
    (fun i σ' H' _ ⟨η', B', ρ', M', _, m', l', _⟩ => hG H' (l'.1.trans m'.ex)) (fun i x σ' H' H2 hi ⟨η', B', ρ', M', e', m', l', w'⟩ y => ?_) (fun σ' H' ⟨η', B', ρ', M', e', m', l', w'⟩ => ?_)
  · have hd : ds[i]? = some ds[i] := List.getElem?_eq_getElem hi
    rw [List.drop_eq_getElem_cons hi] at w'
    obtain ⟨B2, l2, m2, r2, _⟩ := hY i ds[i] hd F B' ρ' M' H' x H2 l' m' y
    have w2 : Wp X.K X.mg F B2 ρ' (wAll W) (FlP X.K E) ((gt ds[i] η' M').bind _) := w'.mono l2
    refine ⟨ds[i], η', F, B2, ρ', M', r2, e'.mono l2, m2, w2.bind fun η3 M3 B3 ρ3 H3 l3 m3 w3 σ3 e3 _ => ?_⟩
    refine ⟨η3, F, B3, ρ3, M3, e3, m3, w3.bind fun fl M4 B4 ρ4 H4 l4 m4 w4 => ?_⟩
    have lz : Le B1 ρ1 B4 ρ4 := ((l'.trans l2).trans l3).trans l4
    cases fl with
    | nx η4 => exact fun σ4 e4 => ⟨η4, B4, ρ4, M4, e4, m4, lz, w4⟩
    | ct η4 => exact fun σ4 e4 => ⟨η4, B4, ρ4, M4, e4, m4, lz, w4⟩
    | bk η4 => exact fun σ4 e4 => Wp.ret (P := FlP X.K E) w4 m4 σ4 e4
    | rt v => exact Wp.ret (P := FlP X.K E) w4 m4
  · rw [List.drop_length] at w'
    exact Wp.ret (P := FlP X.K E) w' m' σ' e'

/-! ### a list made by a comprehension -/
def xLcL (g : XG) (t : XT) (f : XE) : List D → Dv → Mem → R (List D)
  | [], _, M => .ok [] M
  | d :: ds, η, M => (g d η M).calm.bind fun η' M1 => (t η' M1).calm.bind fun b M2 => if b = true then (f η' M2).calm.bind fun y M3 => (xLcL g t f ds η M3).bind fun r M4 => .ok (y :: r) M4 else xLcL g t f ds η M2
/-- what is made, and whether it may change -/
def frozenL (ds : List D) (M : Mem) : R D := .ok (.lst ds) M
def xLc (fin : List D → Mem → R D) (i : XI) (g : XG) (t : XT) (f : XE) (vs : List Nat) : XE := fun η M => (i η M).bind fun ds M1 => if ds.length ≤ 100000 then (xLcL g t f ds (wipeD η vs) M1).bind fin else .no
def xYes : XT := fun _ M => .ok true M
theorem dts_nil : DTs X W [] xYes := PTs.imp pts_nil fun σ H Q z => by
  obtain ⟨η, F, B, ρ, M, er, m, w⟩ := z
  exact Wp.ret (P := fun b _ _ H' => Q b H') w m
/-- what follows a new list -/
def FinOk (fin : List D → Mem → R D) : Prop := ∀ (K : PySem.W.Frag) (mg : Str → Option Value) (W : XK) (F B H : Hp) (ρ : List Addr) (M : Mem) (ds : List D) (vs : List V) (Q : VK), MR K F B ρ M H → Rps K B ρ ds vs → Wp K mg F B ρ W (fun d B' ρ' H' => ∀ v, Rp K B' ρ' d v → Q v H') (fin ds M) →
  ∀ p, H p = none → Q (.ref p) (upd H p (.lst vs))
theorem fin_frozen : FinOk frozenL := fun K mg W F B H ρ M ds vs Q m r w => (done_of w).newL m r
theorem drop_frame {K : PySem.W.Frag} {F B H : Hp} {ρ : List Addr} {M : Mem} {p : Addr} {u : HO} (m : MR K (upd F p u) B ρ M H) (hF : F p = none) (o : HO) (hu : isFrz u = false := by rfl) : MR K F B ρ M (upd H p o) ∧ B p = none ∧ p ∉ ρ := by
  obtain ⟨hB, hρ⟩ := m.dj' upd_same hu
  refine ⟨⟨fun a v e => ?_, fun a v e => ?_, fun a v e => ?_, m.len, m.nd, fun n ob h => ?_, fun a ys e => ?_⟩, hB, hρ⟩
  · rw [upd_ne (ne_of_none e hB)]
    exact m.ex a v e
  · have na : a ≠ p := ne_of_none e hF
    rw [upd_ne na]
    exact m.fr a v (by rw [upd_ne na]; exact e)
  · have na : a ≠ p := ne_of_none e hF
    exact m.dj a v (by rw [upd_ne na]; exact e)
  · obtain ⟨a, ha, hb, r⟩ := m.ob n ob h
    have na : a ≠ p := fun z => hρ (z ▸ List.mem_of_getElem? ha)
    exact ⟨a, ha, hb, r.mono (Le.refl _ _) fun w q => by rw [upd_ne na]; exact q⟩
  · have na : a ≠ p := ne_of_none e hF
    exact m.nt a ys (by rw [upd_ne na]; exact e)
theorem add_frame {K : PySem.W.Frag} {F B H : Hp} {ρ : List Addr} {M : Mem} {p : Addr} {u : HO} (m : MR K F B ρ M H) (hp : H p = some u) (hB : B p = none) (hρ : p ∉ ρ) (hu : ∀ ys, u ≠ .tup ys := by intro ys z; cases z) : MR K (upd F p u) B ρ M H := by
  refine ⟨m.ex, fun a v e => ?_, fun a v e => ?_, m.len, m.nd, m.ob, fun a ys e => ?_⟩
  · by_cases q : a = p
    · subst q
      rw [upd_same] at e
      cases e
      exact hp
    · rw [upd_ne q] at e
      exact m.fr a v e
  · by_cases q : a = p
    · subst q
      exact ⟨hB, fun n hn => absurd (List.mem_of_getElem? hn) hρ⟩
    · rw [upd_ne q] at e
      exact m.dj a v e
  · by_cases q : a = p
    · subst q
      rw [upd_same] at e
      exact hu ys (Option.some.inj e)
    · rw [upd_ne q] at e
      exact m.nt a ys e
theorem de_lc {elt : Expr} {ifs : List Expr} {scope : Scope} {own : List (Str × Nat)} {fi : XI} {ts : List Nat} {gt : XG} {t : XT} {W' : WX} {fin : List D → Mem → R D} (hf : FinOk fin) (hc : X.calm = true) (hN : X.N.Nodup) (hi : DI X W tg it fi) (ok : BlkOk X.N X.env.scope scope own)
    (hg : ∀ (s : Shared) (H : Hp) (C : Addr) (cl : List (Str × Addr)) (fp : List Addr), DG (X.blk s H scope (compEnvC scope cl C X.env) fp) W' tg ts gt) (ht : ∀ (s : Shared) (H : Hp) (C : Addr) (cl : List (Str × Addr)) (fp : List Addr), DTs (X.blk s H scope (compEnvC scope cl C X.env) fp) W' ifs t)
    (he : ∀ (s : Shared) (H : Hp) (C : Addr) (cl : List (Str × Addr)) (fp : List Addr), DE (X.blk s H scope (compEnvC scope cl C X.env) fp) W' elt f) (hts : ∀ i ∈ ts, i ∈ own.map (·.2)) (hs : ∀ x, foldedSetIterable it X.env x = pure x := by intro _; rfl) :
    DE X W (.ListComp elt [⟨tg, it, ifs, 0⟩] scope pos) (xLc fin fi gt t f (own.map (·.2))) := PE.imp (pe_lc (g := tG X.K X.mg W' ts gt) (tt := tT X.K X.mg W' t) (te := tE X.K X.mg W' f) hc hN hi ok hg ht he hs) fun σ H Q z => lcGo hf hts σ H Q z
where
  lcGo {own : List (Str × Nat)} {fi : XI} {ts : List Nat} {gt : XG} {t : XT} {W' : WX} {fin : List D → Mem → R D} {f : XE} (hf : FinOk fin) (hts : ∀ i ∈ ts, i ∈ own.map (·.2)) (σ : L2.St) (H : Hp) (Q : VK) (z : tE X.K X.mg W (xLc fin fi gt t f (own.map (·.2))) σ H Q) :
      tLc (tI X.K X.mg W fi) (tG X.K X.mg W' ts gt) (tT X.K X.mg W' t) (tE X.K X.mg W' f) (own.map (·.2)) σ H Q := by
    obtain ⟨η, F, B, ρ, M, er, m, w⟩ := z
    refine ⟨η, F, B, ρ, M, er, m, w.bind fun ds M1 B1 ρ1 H1 l1 m1 w1 J wd => fun p hp => ?_⟩
    split at w1
    · next hlen =>
      obtain ⟨G, Y, wk, hG, hY⟩ := wd.w
      have hFp : F p = none := fresh_back m1.fr hp
      refine lc_it wk (fun i H' => ∃ B' ρ' M' acc dacc, MR X.K F B' ρ' M' H' ∧ Le B1 ρ1 B' ρ' ∧ H' p = some (.lst acc) ∧ B' p = none ∧ p ∉ ρ' ∧ Rps X.K B' ρ' dacc acc ∧ dacc.length ≤ i ∧
          Wp X.K X.mg F B' ρ' (wAt W σ) (fun d B' ρ' H' => ∀ v, Rp X.K B' ρ' d v → Q v H') ((xLcL gt t f (ds.drop i) (wipeD η (own.map (·.2))) M').bind fun r M2 => fin (dacc ++ r) M2))
        ⟨B1, ρ1, M1, [], [], m1.more (Ex.new hp), Le.refl _ _, upd_same, fresh_back m1.ex hp, m1.notin hp, .nil, Nat.le_refl _, by simpa using w1⟩
        (fun i H' _ ⟨B', ρ', M', _, _, m', l', _⟩ => hG H' (l'.1.trans m'.ex)) (fun i x H' H2 hi ⟨B', ρ', M', acc, dacc, m', l', hp', hB', hρ', ra, hla, w'⟩ y => ?_) (fun H' ⟨B', ρ', M', acc, dacc, m', l', hp', hB', hρ', ra, hla, w'⟩ => ?_)
      · have hd : ds[i]? = some ds[i] := List.getElem?_eq_getElem hi
        rw [List.drop_eq_getElem_cons hi] at w'
        have m'' : MR X.K (upd F p (.lst acc)) B' ρ' M' H' := add_frame m' hp' hB' hρ'
        obtain ⟨B2, l2, m2, r2, _⟩ := hY i ds[i] hd _ B' ρ' M' H' x H2 l' m'' y
        unfold xLcL at w'
        have e' : ER X.K B2 ρ' (wipeD η (own.map (·.2))) (L2.wipe σ (own.map (·.2))) := (er.mono ((l1.trans l'))).mono l2 |>.wipe _
        cases h1 : gt ds[i] (wipeD η (own.map (·.2))) M' with
        | ex e0 M0 => rw [h1] at w'; exact w'.elim
        | no => rw [h1] at w'; exact w'.elim
        | ok η3 M3 =>
        simp only [h1, R.calm_ok, R.bind_ok] at w'
        refine ⟨ds[i], _, _, B2, ρ', M', r2, e', m2, ?_⟩
        rw [h1]
        intro B3 ρ3 H3 l3 m3 σ3 e3 off3
        refine ⟨wipe_off off3 hts ▸ ?_, ?_⟩
        · have idem : ∀ (vs : List Nat) (τ : L2.St), L2.wipe (L2.wipe τ vs) vs = L2.wipe τ vs := fun vs τ => by
            apply wipe_off (ts := vs) (σ := τ) (σ' := L2.wipe τ vs)
            · refine ⟨L2.wipe_length _ _, fun j hj => ?_⟩
              exact L2.wipe_out hj
            · intro t ht; exact ht
          exact idem _ _
        · cases h2 : t η3 M3 with
          | ex e0 M0 => rw [h2] at w'; exact w'.elim
          | no => rw [h2] at w'; exact w'.elim
          | ok bb M4 =>
          simp only [h2, R.calm_ok, R.bind_ok] at w'
          refine ⟨η3, _, B3, ρ3, M3, e3, m3, ?_⟩
          rw [h2]
          intro B4 ρ4 H4 l4 m4
          have lz : Le B' ρ' B4 ρ4 := (l2.trans l3).trans l4
          cases bb with
          | false =>
            simp only [Bool.false_eq_true, if_false] at w' ⊢
            have hp4 : H4 p = some (.lst acc) := m4.fr p _ upd_same
            obtain ⟨hB4, hρ4⟩ := m4.dj' upd_same rfl
            have m5 := (drop_frame m4 hFp (.lst acc)).1
            have same : upd H4 p (.lst acc) = H4 := by
              funext q
              by_cases hq : q = p
              · subst hq; rw [upd_same, hp4]
              · rw [upd_ne hq]
            rw [same] at m5
            exact ⟨B4, ρ4, M4, acc, dacc, m5, l'.trans lz, hp4, hB4, hρ4, ra.mono lz, by omega, w'.mono lz⟩
          | true =>
            simp only [if_true] at w' ⊢
            cases h3 : f η3 M4 with
            | ex e0 M0 => rw [h3] at w'; exact w'.elim
            | no => rw [h3] at w'; exact w'.elim
            | ok yy M5 =>
            simp only [h3, R.calm_ok, R.bind_ok] at w'
            refine ⟨η3, _, B4, ρ4, M4, e3.mono l4, m4, ?_⟩
            rw [h3]
            intro B5 ρ5 H5 l5 m5 v5 r5
            have lz5 : Le B' ρ' B5 ρ5 := lz.trans l5
            have hp5 : H5 p = some (.lst acc) := m5.fr p _ upd_same
            obtain ⟨m6, hB6, hρ6⟩ := drop_frame m5 hFp (.lst (acc ++ [v5]))
            have hl := ra.len
            have hi' : i < 100000 := by omega
            refine ⟨acc, hp5, by rw [← hl]; exact sz_lt (by omega), B5, ρ5, M5, acc ++ [v5], dacc ++ [yy], m6, l'.trans lz5, upd_same, hB6, hρ6, (ra.mono lz5).snoc r5, by simp; omega, ?_⟩
            have w5 := w'.mono lz5
            cases h4 : xLcL gt t f (ds.drop (i + 1)) (wipeD η (own.map (·.2))) M5 with
            | ex e0 M0 => rw [h4] at w5; exact w5
            | no => rw [h4] at w5; exact w5.elim
            | ok r6 M6 =>
              simp only [h4, R.bind_ok] at w5
              show Wp X.K X.mg F B5 ρ5 (wAt W σ) _ (fin (dacc ++ [yy] ++ r6) M6)
              rw [List.append_assoc]
              exact w5
      · rw [List.drop_length] at w'
        have w2 : Wp X.K X.mg F B' ρ' (wAt W σ) (fun d B' ρ' H' => ∀ v, Rp X.K B' ρ' d v → Q v H') (fin (dacc ++ []) M') := w'
        rw [List.append_nil] at w2
        -- the heap without the new list
        have m0 : MR X.K F B' ρ' M' (fun q => if q = p then none else H' q) := by
          refine ⟨fun a v e => ?_, fun a v e => ?_, m'.dj, m'.len, m'.nd, fun n ob h => ?_, m'.nt⟩
          · rw [if_neg (ne_of_none e hB')]; exact m'.ex a v e
          · rw [if_neg (ne_of_none e hFp)]; exact m'.fr a v e
          · obtain ⟨a, ha, hb, r⟩ := m'.ob n ob h
            have na : a ≠ p := fun z => hρ' (z ▸ List.mem_of_getElem? ha)
            exact ⟨a, ha, hb, r.mono (Le.refl _ _) fun w q => by rw [if_neg na]; exact q⟩
        have hq := hf X.K X.mg (wAt W σ) F B' _ ρ' M' dacc acc Q m0 ra w2 p (if_pos rfl)
        have same : upd (fun q => if q = p then none else H' q) p (.lst acc) = H' := by
          funext q
          by_cases hq : q = p
          · subst hq; rw [upd_same, hp']
          · rw [upd_ne hq, if_neg hq]
        rw [same] at hq
        exact hq
    · exact w1.elim
end
end Dn

/-! x[::-1] of lists, tuples, texts -/
namespace Dn
open PySem PySem.Spec PyProof.Rows L2 Evl
section
variable {prog : Program} {w : World} {A : Around} {E : Value → Shared → Prop} {s : Shared}
theorem sliceApplied_rev {sl : Addr} {vl vu vs : Value} {n : Nat} {Q : Int × Int × Nat → Shared → Prop} (hs : s.heap.IsSliceOf sl vl vu vs) (pl : IsPart vl none) (pu : IsPart vu none) (ps : IsPart vs (some (-1)))
    (h : Q ((n : Int) - 1, -1, n) s) : wpAny (model prog w) A (Builtin.Slice.sliceApplied (.ref sl) (pure (n : Int))) Q E s := by
  obtain ⟨os, hos, hcs, hds⟩ := id hs
  unfold Builtin.Slice.sliceApplied Builtin.Slice.sliceFields
  refine wpAny_bind (wpAny_bind (wpAny_field hos hds (x := vl) rfl (wpAny_bind (wpAny_field hos hds (x := vu) rfl (wpAny_bind (wpAny_field hos hds (x := vs) rfl (wpAny_pure ?_)))))))
  refine wpAny_bind (HT.slicePart_ ps ?_)
  show wpAny _ _ (if ((-1 : Int) == 0) = true then _ else _) _ _ s
  rw [if_neg (by decide)]
  refine wpAny_bind (HT.slicePart_ pl (wpAny_bind (HT.slicePart_ pu (wpAny_bind (wpAny_pure ?_)))))
  have e1 : Builtin.Slice.sliceAdjust none none (-1) (n : Int) = ((n : Int) - 1, -1) := by
    unfold Builtin.Slice.sliceAdjust
    simp
  have e2 : Builtin.Slice.slicePlaces ((n : Int) - 1) (-1) (-1) = n := by
    unfold Builtin.Slice.slicePlaces
    have h1 : ¬ ((-1 : Int) > 0) := by omega
    simp only [h1, if_false]
    have e : (- -1 : Int) = 1 := by decide
    rw [e, Int.ediv_one]
    split <;> omega
  show wpAny _ _ (match Builtin.Slice.sliceAdjust none none (-1) (n : Int) with | (lo, hi) => pure (lo, (-1 : Int), Builtin.Slice.slicePlaces lo hi (-1))) _ _ s
  rw [e1]
  show wpAny _ _ (pure ((n : Int) - 1, (-1 : Int), Builtin.Slice.slicePlaces ((n : Int) - 1) (-1) (-1))) _ _ s
  rw [e2]
  exact wpAny_pure h
theorem pick_rev (xs : Array Value) : ((List.range xs.size).filterMap fun (k : Nat) => xs[((xs.size : Int) - 1 + (k : Int) * -1).toNat]?).toArray = xs.toList.reverse.toArray := by
  apply congrArg List.toArray
  have e : (List.range xs.size).filterMap (fun (k : Nat) => xs[((xs.size : Int) - 1 + (k : Int) * -1).toNat]?) = (List.range xs.size).filterMap (fun (k : Nat) => xs[xs.size - 1 - k]?) := by
    have gen : ∀ (l : List Nat) (f g : Nat → Option Value), (∀ k ∈ l, f k = g k) → l.filterMap f = l.filterMap g := by
      intro l f g
      induction l with
      | nil => intro _; rfl
      | cons a l ih =>
        intro h
        rw [List.filterMap_cons, List.filterMap_cons, h a (List.mem_cons_self ..), ih fun k hk => h k (List.mem_cons_of_mem _ hk)]
    refine gen _ _ _ fun k hk => ?_
    have hk' : k < xs.size := List.mem_range.mp hk
    have : ((xs.size : Int) - 1 + (k : Int) * -1).toNat = xs.size - 1 - k := by omega
    rw [this]
  rw [e]
  have e2 : (fun (k : Nat) => xs[xs.size - 1 - k]?) = (fun i => xs[i]?) ∘ (fun k => xs.size - 1 - k) := rfl
  rw [e2, ← List.filterMap_map, PySem.W.krv_range, List.filterMap_reverse, PySem.W.krv_all]
theorem getItem_tuple_rev {t sl : Addr} {items : Array Value} {vl vu vs : Value} {Q : Value → Shared → Prop} (ht : IsTup s.heap t items) (hs : s.heap.IsSliceOf sl vl vu vs) (pl : IsPart vl none) (pu : IsPart vu none) (ps : IsPart vs (some (-1)))
    (h : Q (.ref s.heap.objs.size) { s with heap := s.heap.push { cls := .type "tuple", data := .seq items.toList.reverse.toArray } })
    (hsz : items.size ≤ sizeLine) : wpAny (model prog w) A (getItem (.ref t) (.ref sl)) Q E s := by
  have htake : sizeOk (.seq items.toList.reverse.toArray) := by
    show items.toList.reverse.toArray.size ≤ sizeLine
    rw [List.size_toArray, List.length_reverse, Array.length_toList]
    exact hsz
  obtain ⟨os, hos, hcs, hds⟩ := id hs
  have hTs : s.TypeIs (.ref sl) "slice" := ⟨os, hos, hcs⟩
  unfold getItem
  try with_reducible refine wpAny_holding ?_
  first | refine wpAny_bind (wpAny_pure ?_) | skip
  refine wpAny_bind (wpAny_sequenceKey ht.typeIs (by decide) ?_)
  refine wpAny_bind (wpAny_callSpecial?_slot (name := Str.ofString "__getitem__") ht.typeIs PyProof.Rows.slot_tuple_getitem
    (wpAny_call_entry PyProof.Rows.slot_tuple_getitem ht.typeIs PyProof.Rows.entry_tuple_getitem ?_ (PyProof.Rows.args_tuple_getitem _ _)))
  show wpAny _ _ (Builtin.Tuple.tupleItemsOf (.ref t) >>= _) _ _ s
  refine wpAny_bind (PyProof.Rows.tupleItemsOf_ ht ?_)
  refine wpAny_bind (wpAny_typeOf hTs ?_)
  rw [if_pos (by decide)]
  refine wpAny_bind (sliceApplied_rev hs pl pu ps ?_)
  have hno : ¬ ((((items.size : Int) - 1) == 0 && (-1 : Int) == 1 && items.size == items.size) = true) := by
    intro q
    rw [Bool.and_eq_true, Bool.and_eq_true] at q
    exact absurd q.1.2 (by decide)
  show wpAny _ _ (if (((items.size : Int) - 1) == 0 && (-1 : Int) == 1 && items.size == items.size) = true then _ else _) _ _ s
  rw [if_neg hno, pick_rev]
  first
    | exact wpAny_bind (m := Builtin.Tuple.tupleExact _) (wpAny_newObj_type (wpAny_pure ⟨_, rfl, wpAny_pure h⟩) htake)
    | exact wpAny_bind (m := Builtin.Tuple.tupleExact _) (wpAny_newObj_type (wpAny_bind (wpAny_pure (wpAny_pure ⟨_, rfl, wpAny_pure h⟩))) htake)
    | exact wpAny_bind (wpAny_bind (m := Builtin.Tuple.tupleExact _) (wpAny_newObj_type (wpAny_pure (wpAny_pure ⟨_, rfl, wpAny_pure h⟩)) htake))
    | exact wpAny_bind (wpAny_bind (m := Builtin.Tuple.tupleExact _) (wpAny_newObj_type (wpAny_pure ⟨_, rfl, wpAny_pure h⟩) htake))
end
section
variable {X : Cx} {W : WX}
def revS (z : Str) : Str := ⟨z.cps.toList.reverse.toArray⟩
def tRevA (K : PySem.W.Frag) (te : TE) : TE := fun σ H Q => te σ H fun x H1 => (∃ a xs, x = .ref a ∧ SqL K H1 a xs ∧ ∀ p, H1 p = none → Q (.ref p) (upd H1 p (.lst xs.reverse))) ∨
  (∃ a xs, x = .ref a ∧ SqT K H1 a xs ∧ ∀ p, H1 p = none → Q (.ref p) (upd H1 p (.tup xs.reverse))) ∨ (∃ z, x = .str z ∧ z.length ≤ sizeLine ∧ Q (.str (revS z)) H1)
theorem pe_revA {e : Expr} {te : TE} {k : Nat} {p1 p2 p3 pos : Pos} (he : PE X e te) : PE X (.Subscript e (.Slice none none (some (.UnaryOp .USub (.Constant (.int 1) k p1) p2)) p3) pos) (tRevA X.K te) := by
  refine ⟨fun pins s σ H Q I h => ?_⟩
  refine PyProof.Rows.Subscript_ (thn (he.run pins s σ H _ I h) fun v s1 ⟨x, H1, I1, r1, q1⟩ => ?_)
  have hst : PO X (some (.UnaryOp .USub (.Constant (.int 1) k p1) p2)) (tPart (tUn (rU fun i => .int (-i)) (tC (.int 1)))) := po_some (pe_un un_neg pe_int)
  refine wpAny_Slice (thn (po_none.run pins s1 σ H1 (fun o H2 => o = none ∧ H2 = H1) I1 ⟨rfl, rfl⟩) fun vl s2 ⟨l, H2, I2, pl, el, e2⟩ => ?_)
  subst el e2
  refine thn (po_none.run pins s2 σ H2 (fun o H3 => o = none ∧ H3 = H2) I2 ⟨rfl, rfl⟩) fun vu s3 ⟨u, H3, I3, pu, eu, e3⟩ => ?_
  subst eu e3
  refine thn (hst.run pins s3 σ H3 (fun o H4 => o = some (-1) ∧ H4 = H3) I3 ⟨1, rfl, -1, rfl, rfl, rfl⟩) fun vs s4 ⟨o, H4, I4, ps, eo, e4⟩ => ?_
  subst eo e4
  have I5 : Inv X pins σ H4 { s4 with heap := s4.heap.push { cls := .type "slice", data := .fields #[vl, vu, vs] } } := I4.kept (t' := s4.toks) fun b ob q => Heap.get?_push_of_some _ q
  rcases q1 with ⟨a, xs, ex, hx, q⟩ | ⟨a, xs, ex, hx, q⟩ | ⟨z, ex, hz, q⟩
  · subst ex
    cases r1
    obtain ⟨its, r, ht, hz⟩ := I5.list hx
    have hlen := r.length
    show wpAny (model X.prog X.w) X.A (subscriptTail e (.Slice none none (some (.UnaryOp .USub (.Constant (.int 1) k p1) p2)) p3) (.ref a) (.ref s4.heap.objs.size)) (EP X pins σ Q) X.xe { s4 with heap := s4.heap.push { cls := .type "slice", data := .fields #[vl, vu, vs] } }
    refine PyProof.Rows.tail_any (ops := [.ref a, .ref s4.heap.objs.size]) ht.isList.typeIs (PySem.slot_list_getitem.lookup) ?_ (by with_unfolding_all rfl)
    refine wpAny_getItem_list_slice ht.isList (Heap.IsSliceOf.new _ vl vu vs) pl pu ps (by decide) ?_ (by rw [List.size_toArray]; omega)
    rw [PySem.W.krv_pick]
    refine ⟨.ref _, _, I5.laid (t' := s4.toks) (o := .lst xs.reverse) (fun b ob q => Heap.get?_push_of_some _ q) (Nat.le_refl _) ?_, rfl, q _ (I5.hok.fresh (Nat.le_refl _))⟩
    exact ⟨by rw [List.length_reverse]; exact hz, _, 0, r.reverse, Heap.get?_push_size _ rfl⟩
  · subst ex
    cases r1
    obtain ⟨its, r, ht, hz⟩ := I5.tuple hx
    have hlen := r.length
    show wpAny (model X.prog X.w) X.A (subscriptTail e (.Slice none none (some (.UnaryOp .USub (.Constant (.int 1) k p1) p2)) p3) (.ref a) (.ref s4.heap.objs.size)) (EP X pins σ Q) X.xe { s4 with heap := s4.heap.push { cls := .type "slice", data := .fields #[vl, vu, vs] } }
    refine PyProof.Rows.tail_any (ops := [.ref a, .ref s4.heap.objs.size]) ht.typeIs (PyProof.Rows.slot_tuple_getitem.lookup) ?_ (by with_unfolding_all rfl)
    refine getItem_tuple_rev ht (Heap.IsSliceOf.new _ vl vu vs) pl pu ps ?_ (by rw [List.size_toArray]; omega)
    refine ⟨.ref _, _, I5.laid (t' := s4.toks) (o := .tup xs.reverse) (fun b ob q => Heap.get?_push_of_some _ q) (Nat.le_refl _) ?_, rfl, q _ (I5.hok.fresh (Nat.le_refl _))⟩
    exact ⟨by rw [List.length_reverse]; exact hz, _, r.reverse, IsTup.new _ _⟩
  · subst ex
    obtain ⟨t, rfl⟩ := r1
    obtain ⟨l, rfl, hl⟩ := IsPart.raw pl
    obtain ⟨u, rfl, hu⟩ := IsPart.raw pu
    obtain ⟨st, rfl, hst⟩ := IsPart.raw ps
    show wpAny (model X.prog X.w) X.A (subscriptTail e (.Slice none none (some (.UnaryOp .USub (.Constant (.int 1) k p1) p2)) p3) (.str z t) (.ref s4.heap.objs.size)) (EP X pins σ Q) X.xe { s4 with heap := s4.heap.push { cls := .type "slice", data := .fields #[_, _, _] } }
    refine PyProof.Rows.tail_any (ops := [.str z t, .ref s4.heap.objs.size]) (typeIs_str _ _ _) (PySem.F.slot_str_getitem.lookup) ?_ (by with_unfolding_all rfl)
    have hl' : l = none := by cases l <;> simp at hl <;> rfl
    have hu' : u = none := by cases u <;> simp at hu <;> rfl
    subst hl' hu'
    cases st with
    | none => simp at hst
    | some stv =>
      obtain ⟨si, sk⟩ := stv
      simp at hst
      subst hst
      refine wpAny_getItem_str_slice (l := none) (u := none) (st := some (-1, sk)) ⟨_, Heap.get?_push_size _ rfl, rfl, rfl⟩ rfl ?_
      have e1 : Builtin.Str.strSliceIndices none none (-1) z.length = (List.range z.length).map fun k => z.length - 1 - k := PyProof.Rows.picked_rev z.length
      have e2 : ((List.range z.length).map fun k => z.length - 1 - k).filterMap (fun i => z.cps[i]?) = z.cps.toList.reverse := by
        have ez : z.length = z.cps.size := rfl
        rw [ez, PySem.W.krv_range, List.filterMap_reverse, PySem.W.krv_all]
      show Made.post (if ((-1 : Int) == 1 && (Builtin.Str.strSliceIndices none none (-1) z.length).length == z.length) = true then Made.val (.str z t)
        else Made.str ⟨((Builtin.Str.strSliceIndices none none (-1) z.length).filterMap (z.cps[·]?)).toArray⟩) (EP X pins σ Q) _
      rw [if_neg (by intro q; rw [Bool.and_eq_true] at q; exact absurd q.1 (by decide)), e1, e2]
      refine ⟨?_, .str _, H4, I5.tok _, ⟨_, rfl⟩, q⟩
      show z.cps.toList.reverse.toArray.size ≤ sizeLine
      rw [List.size_toArray, List.length_reverse, Array.length_toList]
      exact hz
variable {e : Expr} {f : XE}
/-- turned about -/
def revD (M : Mem) (d : D) : Option D := match asL M d with
  | some ds => some (.lst ds.reverse)
  | none => match asT d with
    | some ds => some (.tup ds.reverse)
    | none => (asS d).bind fun s => if s.length ≤ sizeLine then some (.str (revS s)) else none
def xRev (f : XE) : XE := fun η M => (f η M).bind fun d M1 => R.of (revD M1 d) M1
theorem de_rev {k : Nat} {p1 p2 p3 pos : Pos} (he : DE X W e f) : DE X W (.Subscript e (.Slice none none (some (.UnaryOp .USub (.Constant (.int 1) k p1) p2)) p3) pos) (xRev f) := PE.imp (pe_revA he) fun σ H Q z => by
  obtain ⟨η, F, B, ρ, M, er, m, w⟩ := z
  refine ⟨η, F, B, ρ, M, er, m, w.bind fun d M1 B1 ρ1 H1 l1 m1 w1 v rv => ?_⟩
  obtain ⟨dz, hz, w2⟩ := w1.of
  unfold revD at hz
  split at hz
  · next ds hd =>
    obtain rfl := Option.some.inj hz
    obtain ⟨a, vs, rfl, hs, rs⟩ := asL_snd m1 rv hd
    exact .inl ⟨a, vs, rfl, hs, (done_of w2).newL m1 rs.rev⟩
  · split at hz
    · next ds hd =>
      obtain rfl := Option.some.inj hz
      obtain ⟨a, vs, rfl, hs, rs⟩ := asT_snd m1 rv hd
      exact .inr (.inl ⟨a, vs, rfl, hs, (done_of w2).newT m1 rs.rev⟩)
    · cases hs : asS d with
      | none => simp [hs] at hz
      | some s =>
        simp only [hs, Option.bind_some] at hz
        split at hz
        · next hl =>
          obtain rfl := Option.some.inj hz
          exact .inr (.inr ⟨s, asS_snd rv hs, hl, (done_of w2).same m1 (.str _)⟩)
        · cases hz
end
end Dn

namespace Dn
open PySem PyProof.Rows L2 Evl
/-! ### a def -/
abbrev Fn := List D → Mem → R D
def toVal : Fl → Mem → R D := fun fl M => match fl with
  | .rt d => .ok d M
  | .nx _ => .ok .non M
  | _ => .no
/-- n parameters, N slots -/
def callB (n N : Nat) (body : XS) : Fn := fun ds M => if ds.length = n then (body (ds.map some ++ List.replicate (N - n) none) M).bind toVal else .no
/-- the promise: it does what f says -/
def spF (K : PySem.W.Frag) (mg : Str → Option Value) (n : Nat) (f : Fn) : Sp := fun vs H Q _ => ∃ (U : XK) (ds : List D) (F B : Hp) (ρ : List Addr) (M : Mem), ds.length = n ∧ Rps K B ρ ds vs ∧ MR K F B ρ M H ∧ Wp K mg F B ρ U (fun d B' ρ' H' => ∀ v, Rp K B' ρ' d v → Q v H') (f ds M)
theorem er_start {K : PySem.W.Frag} {B : Hp} {ρ : List Addr} {N : List Str} {ds : List D} {vs : List V} (r : Rps K B ρ ds vs) : ER K B ρ (ds.map some ++ List.replicate (N.length - ds.length) none) (L2.start N vs) := by
  have hl := r.len
  refine ⟨by simp [L2.start, hl], fun i d h => ?_⟩
  by_cases hi : i < ds.length
  · rw [List.getElem?_append_left (by simpa using hi), List.getElem?_map] at h
    cases hd : ds[i]? with
    | none => rw [hd] at h; cases h
    | some d' =>
      rw [hd] at h
      simp at h
      subst h
      obtain ⟨v, h1, h2⟩ := r.get hd
      refine ⟨v, ?_, h2⟩
      unfold L2.start
      rw [List.getElem?_append_left (by simp; omega), List.getElem?_map, h1]
      rfl
  · rw [List.getElem?_append_right (by simpa using hi)] at h
    rw [List.getElem?_replicate] at h
    split at h <;> cases h
section
variable {P : Program} {w : World} {K : PySem.W.Frag} {mg : Str → Option Value} {base : Heap}
theorem fn_ok {x qual : Str} {st : Stmt} {f : Addr} {fd : FuncData} {N ps : List Str} {k : Nat} {body : XS} (F : Fun K x qual st f fd) (S : FnScope N ps (defScope st))
    (hb : ∀ (cdv : Value) (A : Around) (outer : List Env) (s : Shared) (H : Hp) (E : XK) (W : WX), Room k (A.deeper (envOfC qual (defScope st) s.heap.objs.size f cdv)) → DSs (cxOf CX0 P w K mg base N qual (defScope st) f cdv A outer s H E).nox W (defBody st) body) :
    FnOk P w K mg base CX0 (k + 1) f fd ps (spF K mg ps.length (callB ps.length N.length body)) := by
  refine F.ok S (fun vs H Q E h => ?_) (fun cdv A outer s H vs Q E hr h => ?_)
  · obtain ⟨_, ds, _, _, _, _, hl, r, _⟩ := h
    rw [← r.len]
    exact hl
  · obtain ⟨U, ds, Fr, B, ρ, M, hl, r, m, wp⟩ := h
    refine ⟨_, hb cdv A outer s H E (fun c d _ H => U c d H) hr, ?_⟩
    have e := er_start (N := N) r
    rw [hl] at e
    refine ⟨_, Fr, B, ρ, M, e, m, ?_⟩
    unfold callB at wp
    rw [if_pos hl] at wp
    exact wp.bind fun fl M1 B1 ρ1 H1 l1 m1 w1 => by
      cases fl with
      | nx η' => exact fun σ' _ => Wp.ret w1 m1 _ .non
      | rt d => exact fun v rv => Wp.ret w1 m1 v rv
      | bk η' => exact w1.elim
      | ct η' => exact w1.elim
end
/-- a def of the module, by its name: it keeps its promise -/
structure FnD (P : Program) (w : World) (K : PySem.W.Frag) (mg : Str → Option Value) (base : Heap) (k : Nat) (x : Str) (n : Nat) (f : Fn) : Prop where
  ex : ∃ (a : Addr) (fd : FuncData) (ps : List Str), FnOk P w K mg base CX0 k a fd ps (spF K mg n f) ∧ mg x = some (.ref a) ∧ PySem.W.keepIn K (.ref a) = true ∧ Binds K fd ps []
/-- the same, called with keywords ks behind n values; g puts them in the parameters' order -/
structure FnK (P : Program) (w : World) (K : PySem.W.Frag) (mg : Str → Option Value) (base : Heap) (k : Nat) (x : Str) (n : Nat) (ks : List Str) (g : {α : Type} → List α → List α → List α) (f : Fn) : Prop where
  ex : ∃ (a : Addr) (fd : FuncData) (ps : List Str), FnOk P w K mg base CX0 k a fd ps (spF K mg ps.length f) ∧ mg x = some (.ref a) ∧ PySem.W.keepIn K (.ref a) = true ∧ KBn K fd ps n ks (fun us ws => g us ws) (fun vs zs => g vs zs)
section
variable {X : Cx} {W : WX} {a b c e o : Expr} {es : List Expr} {fa fk : XA} {pos : Pos}
theorem passW {U : XK} : Passes CX0 X U := fun _ _ _ _ _ _ _ h => h.elim
def xFn (n : Nat) (f : Fn) (fa : XA) : XE := fun η M => (fa η M).bind fun ds M1 => if ds.length = n then f ds M1 else .no
theorem de_call {k n : Nat} {x : Str} {f : Fn} {p0 : Pos} (G : FnD X.prog X.w X.K X.mg X.base k x n f) (hr : Room k X.A) (hg : Gl X x) (ha : DA X W (e :: es) fa) (hdb : (x == ("__debug__" : Str)) = false := by decide)
    (he : starEach (e :: es) X.env = (false, eval e X.env) :: starEach es X.env := by rfl) (hpl : (backTo pos (starEach es X.env)).any (·.1) = false := by rfl) : DE X W (.Call (.Name x p0) (e :: es) [] pos) (xFn n f fa) := by
  obtain ⟨ad, fd, ps, F, hm, hk, hb⟩ := G.ex
  refine PE.imp (pe_call (E := E0) F hr hg hm hk hb .nil passW ha hdb he hpl) fun σ H Q z => ?_
  obtain ⟨η, Fr, B, ρ, M, er, m, w⟩ := z
  refine ⟨η, Fr, B, ρ, M, er, m, w.bind fun ds M1 B1 ρ1 H1 l1 m1 w1 vs rv => ?_⟩
  split at w1
  · next hl =>
    rw [List.append_nil]
    exact ⟨_, ds, Fr, B1, ρ1, M1, hl, rv, m1, w1⟩
  · exact w1.elim
/-! keywords -/
structure PKD (X : Cx) (W : WX) (kws : List Keyword) (f : XA) : Prop where
  pk : PK X kws (tA X.K X.mg W f)
theorem PK.imp {kws : List Keyword} {t t' : TA} (h : PK X kws t) (i : ∀ σ H Q, t' σ H Q → t σ H Q) : PK X kws t' := ⟨fun pos pins s σ H Q I q => h.run pos pins s σ H Q I (i σ H Q q)⟩
theorem dk_nil : PKD X W [] xNil := ⟨PK.imp pk_nil fun σ H Q z => by
  obtain ⟨η, F, B, ρ, M, e, m, w⟩ := z
  exact Wp.ret w m [] .nil⟩
theorem dk_cons {nm : Option Str} {kpos : Pos} {kws : List Keyword} {f : XE} {g : XA} (ha : DE X W e f) (hr : PKD X W kws g) : PKD X W (⟨nm, e, kpos⟩ :: kws) (xCons f g) := ⟨PK.imp (pk_cons ha hr.pk) fun σ H Q z => by
    obtain ⟨η, F, B, ρ, M, er, m, w⟩ := z
    refine ⟨η, F, B, ρ, M, er, m, w.bind fun d M1 B1 ρ1 H1 l1 m1 w1 x rx => ?_⟩
    exact ⟨η, F, B1, ρ1, M1, er.mono l1, m1, w1.bind fun ds M2 B2 ρ2 H2 l2 m2 w2 xs rxs => Wp.ret w2 m2 _ (.cons (rx.mono l2) rxs)⟩⟩
end
/-! ### sorted of texts -/
def leS (a b : Str) : Bool := !PySem.Spec.ltCps b.cps.toList a.cps.toList
def srt (l : List Str) : List Str := l.mergeSort leS
theorem ltCps_anti : ∀ a b : List Nat, PySem.Spec.ltCps a b = false → PySem.Spec.ltCps b a = false → a = b
  | [], [], _, _ => rfl
  | [], _ :: _, h, _ => by simp [PySem.Spec.ltCps] at h
  | _ :: _, [], _, h => by simp [PySem.Spec.ltCps] at h
  | a :: r, b :: t, h1, h2 => by
    simp [PySem.Spec.ltCps] at h1 h2
    have e : a = b := by omega
    subst e
    rw [ltCps_anti r t (h1.2 rfl) (h2.2 rfl)]
theorem ltCps_asymm : ∀ a b : List Nat, PySem.Spec.ltCps a b = true → PySem.Spec.ltCps b a = false
  | [], [], h => by simp [PySem.Spec.ltCps] at h
  | [], _ :: _, _ => rfl
  | _ :: _, [], h => by simp [PySem.Spec.ltCps] at h
  | a :: r, b :: t, h => by
    simp [PySem.Spec.ltCps] at h ⊢
    rcases h with h | ⟨e, h⟩
    · exact ⟨by omega, fun z => by omega⟩
    · subst e
      exact ⟨by omega, fun _ => ltCps_asymm r t h⟩
theorem ltCps_trans : ∀ a b c : List Nat, PySem.Spec.ltCps b a = false → PySem.Spec.ltCps c b = false → PySem.Spec.ltCps c a = false
  | [], _, [], _, _ => rfl
  | [], [], _ :: _, _, _ => rfl
  | [], _ :: _, _ :: _, _, _ => rfl
  | _ :: _, [], _, h, _ => by simp [PySem.Spec.ltCps] at h
  | _ :: _, _ :: _, [], _, h => by simp [PySem.Spec.ltCps] at h
  | a :: r, b :: t, c :: u, h1, h2 => by
    simp [PySem.Spec.ltCps] at h1 h2 ⊢
    refine ⟨by omega, fun e => ?_⟩
    have e1 : b = a := by omega
    have e2 : c = b := by omega
    exact ltCps_trans r t u (h1.2 e1) (h2.2 e2)
theorem leS_trans (a b c : Str) (h1 : leS a b = true) (h2 : leS b c = true) : leS a c = true := by
  unfold leS at *
  simp at *
  exact ltCps_trans _ _ _ h1 h2
theorem leS_total (a b : Str) : (leS a b || leS b a) = true := by
  unfold leS
  cases h : PySem.Spec.ltCps b.cps.toList a.cps.toList with
  | false => rfl
  | true => rw [ltCps_asymm _ _ h]; rfl
theorem leS_anti (a b : Str) (h1 : leS a b = true) (h2 : leS b a = true) : a = b := by
  unfold leS at *
  simp at *
  have := ltCps_anti _ _ h1 h2
  cases a; cases b
  simp at this
  rw [this]
theorem srt_uniq : ∀ (ys zs : List Str), ys.Perm zs → ys.Pairwise (fun a b => leS a b = true) → zs.Pairwise (fun a b => leS a b = true) → ys = zs
  | [], zs, p, _, _ => (List.nil_perm.mp p).symm
  | y :: ys, [], p, _, _ => by simpa using p.length_eq
  | y :: ys, z :: zs, p, h1, h2 => by
    have a1 := List.pairwise_cons.mp h1
    have a2 := List.pairwise_cons.mp h2
    have e : y = z := by
      have m1 : y ∈ z :: zs := p.subset (List.mem_cons_self ..)
      have m2 : z ∈ y :: ys := p.symm.subset (List.mem_cons_self ..)
      rcases List.mem_cons.mp m1 with e | m1
      · exact e
      · rcases List.mem_cons.mp m2 with e | m2
        · exact e.symm
        · exact leS_anti _ _ (a1.1 z m2) (a2.1 y m1)
    subst e
    rw [srt_uniq ys zs (List.Perm.cons_inv p) a1.2 a2.2]
theorem risingS_pw : ∀ (p : Str) (l : List Str), PyProof.Rows.risingS p l = true → (p :: l).Pairwise (fun a b => leS a b = true)
  | p, [], _ => by simp
  | p, x :: r, h => by
    unfold PyProof.Rows.risingS at h
    rw [Bool.and_eq_true] at h
    have ih := risingS_pw x r h.2
    refine List.pairwise_cons.mpr ⟨fun q hq => ?_, ih⟩
    have hpx : leS p x = true := h.1
    rcases List.mem_cons.mp hq with e | hq
    · rw [e]; exact hpx
    · exact leS_trans _ _ _ hpx ((List.pairwise_cons.mp ih).1 q hq)
theorem sorted_is {ys xs : List Str} (p : ys.Perm xs) (h : PyProof.Rows.sortedS ys = true) : ys = srt xs := by
  refine srt_uniq _ _ (p.trans (List.mergeSort_perm xs leS).symm) ?_ (List.pairwise_mergeSort (le := leS) leS_trans leS_total xs)
  cases ys with
  | nil => simp
  | cons y ys => exact risingS_pw y ys h
section
variable {X : Cx} {W : WX}
def bSorted : OpC := one fun M d => (asL M d).bind fun ds => (asSs ds).bind fun ss => if ss.length < 64 then some (.lst ((srt ss).map D.str)) else none
theorem cd_sorted : CallD X (.builtin "sorted") bSorted := by
  refine ⟨_, cr_sortedS, fun F B ρ M H xs ds dz Q m rx e k => ?_⟩
  obtain ⟨d, rfl, h⟩ := one_some e
  cases rx with
  | cons r rr =>
    cases rr
    cases h1 : asL M d with
    | none => simp [h1] at h
    | some es =>
      cases h2 : asSs es with
      | none => simp [h1, h2] at h
      | some ss =>
        simp only [h1, h2, Option.bind_some] at h
        split at h
        · next hl =>
          obtain rfl := Option.some.inj h
          obtain ⟨a, vs, rfl, hs, rs⟩ := asL_snd m r h1
          have := asSs_snd rs h2
          subst this
          refine ⟨a, ss, rfl, hs, hl, fun ys p pm so hp => ?_⟩
          rw [sorted_is pm so]
          exact k.newL m (rps_strs _) p hp
        · cases h
/-! ### methods of texts -/
variable {o e : Expr} {f g : XE} {apos pos : Pos}
def xJoin (f g : XE) : XE := fun η M => (f η M).bind fun s M1 => (R.of (asS s) M1).bind fun z M2 => (g η M2).bind fun d M3 => R.of ((match asL M3 d with | some ds => some ds | none => asT d).bind fun ds => (asSs ds).bind fun ss =>
  if (ss.map fun (q : Str) => q.length).sum + ss.length * z.length ≤ 16777216 then some (.str (Txt.join z ss)) else none) M3
theorem de_join (ho : DE X W o f) (he : DE X W e g) (hs : starEach [e] X.env = [(false, eval e X.env)] := by rfl) (hbase : attributeBase o "join" X.env (eval o X.env) = eval o X.env := by rfl) (hline : (apos.endLine == pos.line) = true := by rfl) :
    DE X W (.Call (.Attribute o "join" apos) [e] [] pos) (xJoin f g) := PE.imp (pe_join ho he hs hbase hline) fun σ H Q z => by
  obtain ⟨η, F, B, ρ, M, er, m, w⟩ := z
  refine ⟨η, F, B, ρ, M, er, m, w.bind fun d M1 B1 ρ1 H1 l1 m1 w1 v rv => ?_⟩
  cases hz : asS d with
  | none => rw [hz] at w1; exact w1.elim
  | some z =>
    rw [hz] at w1
    have w1 : Wp X.K X.mg F B1 ρ1 (wAt W σ) _ ((g η M1).bind _) := w1
    have ev := asS_snd rv hz
    subst ev
    refine ⟨⟨z, rfl⟩, η, F, B1, ρ1, M1, er.mono l1, m1, w1.bind fun c M2 B2 ρ2 H2 l2 m2 w2 u ru => ?_⟩
    obtain ⟨dz, hd, w3⟩ := w2.of
    cases h1 : (match asL M2 c with | some ds => some ds | none => asT c) with
    | none => simp [h1] at hd
    | some ds =>
      simp only [h1, Option.bind_some] at hd
      cases h2 : asSs ds with
      | none => simp [h2] at hd
      | some ss =>
        simp only [h2, Option.bind_some] at hd
        split at hd
        · next hl =>
          obtain rfl := Option.some.inj hd
          cases h3 : asL M2 c with
          | some es =>
            simp only [h3, Option.some.injEq] at h1
            subst h1
            obtain ⟨a, vs, rfl, hs, rs⟩ := asL_snd m2 ru h3
            have := asSs_snd rs h2
            subst this
            exact ⟨z, a, ss, rfl, rfl, .inl hs, hl, (done_of w3).same m2 (.str _)⟩
          | none =>
            simp only [h3] at h1
            obtain ⟨a, vs, rfl, hs, rs⟩ := asT_snd m2 ru h1
            have := asSs_snd rs h2
            subst this
            exact ⟨z, a, ss, rfl, rfl, .inr hs, hl, (done_of w3).same m2 (.str _)⟩
        · cases hd
def xUpper (f : XE) : XE := fun η M => (f η M).bind fun s M1 => (R.of (asS s) M1).bind fun z M2 => if z.length ≤ 5592405 then .ok (.str (Txt.upper z)) M2 else .no
/-! ### - of ints; dicts displayed -/
def xNeg (f : XE) : XE := fun η M => (f η M).bind fun d M1 => R.of ((asI d).map fun i => .int (-i)) M1
/-- {} that stays -/
def xDict0 : XE := fun _ M => .ok (.dct []) M
def keyD : D → Option Key
  | .int i => some (.inl i)
  | .str s => some (.inr s)
  | _ => none
/-- {k: v} that stays -/
def xDict1 (f g : XE) : XE := fun η M => (f η M).bind fun x M1 => (g η M1).bind fun y M2 => R.of ((keyD x).map fun k => .dct [(k, y)]) M2
/-! ### keywords of a call -/
variable {es : List Expr} {fa fk : XA}
end
end Dn
namespace Dn
open PySem PyProof.Rows L2 Evl
/-! ### truth of any thing -/
def truD (M : Mem) (d : D) : Option Bool := match d with
  | .bl b => some b
  | .non => some false
  | .int i => some (i != 0)
  | .str s => if s.length ≤ sizeLine then some ((s.length : Int) != 0) else none
  | _ => match asL M d with
    | some ds => some (!ds.isEmpty)
    | none => (asT d).map fun ds => !ds.isEmpty
theorem emp_rel {K : PySem.W.Frag} {B : Hp} {ρ : List Addr} {ds : List D} {vs : List V} (r : Rps K B ρ ds vs) : (!vs.isEmpty) = !ds.isEmpty := by
  cases r <;> rfl
theorem truD_snd {K : PySem.W.Frag} {F B H : Hp} {ρ : List Addr} {M : Mem} (m : MR K F B ρ M H) {d : D} {v : V} {b : Bool} (r : Rp K B ρ d v) (h : truD M d = some b) : TruV K v H b := by
  have gen : (match asL M d with | some ds => some (!ds.isEmpty) | none => (asT d).map fun ds => !ds.isEmpty) = some b → TruV K v H b := by
    intro h
    split at h
    · next ds hd =>
      obtain ⟨a, vs, rfl, hs, rs⟩ := asL_snd m r hd
      obtain rfl := Option.some.inj h
      exact .inl ⟨vs, hs, (emp_rel rs).symm⟩
    · cases hd : asT d with
      | none => simp [hd] at h
      | some ds =>
        simp only [hd, Option.map_some] at h
        obtain ⟨a, vs, rfl, hs, rs⟩ := asT_snd m r hd
        obtain rfl := Option.some.inj h
        exact .inr (.inl ⟨vs, hs, (emp_rel rs).symm⟩)
  cases d with
  | bl c => cases r; obtain rfl := Option.some.inj h; exact rfl
  | non => cases r; obtain rfl := Option.some.inj h; exact rfl
  | int i => cases r; obtain rfl := Option.some.inj h; exact rfl
  | str s =>
    cases r
    have h : (if s.length ≤ sizeLine then some ((s.length : Int) != 0) else none) = some b := h
    split at h
    · next hz => obtain rfl := Option.some.inj h; exact ⟨hz, rfl⟩
    · cases h
  | lst ds => exact gen h
  | tup ds => exact gen h
  | dct ds => exact gen h
  | dcT ds => exact gen h
  | ins x ds => exact gen h
  | fn x => exact gen h
  | scr ds => exact gen h
  | ptr n => exact gen h
  | raw u => exact gen h
section
variable {X : Cx} {W : WX} {a : Expr} {f : XE}
def xTru (f : XE) : XT := fun η M => (f η M).bind fun d M1 => R.of (truD M1 d) M1
theorem dt_tru (ha : DE X W a f) (he : ∀ whole, isTrue a X.env whole = (do let v ← whole; standAt a.pos; holding [v] (truthy v)) := by intro _; rfl) : DT X W a (xTru f) :=
  PT.imp (pt_truth ha he) fun σ H Q z => by
    obtain ⟨η, F, B, ρ, M, er, m, w⟩ := z
    refine ⟨η, F, B, ρ, M, er, m, w.bind fun d M1 B1 ρ1 H1 l1 m1 w1 v rv => ?_⟩
    obtain ⟨b, hb, w2⟩ := w1.of
    exact ⟨b, truD_snd m1 rv hb, Wp.ret (P := fun b _ _ H' => Q b H') w2 m1⟩
end
/-! ### == of data -/
mutual
def toP : D → Option PyData
  | .non => some .none
  | .bl b => some (.bool b)
  | .int i => some (.int i)
  | .str s => some (.str s)
  | .lst ds => (toPs ds).map PyData.list
  | .tup ds => (toPs ds).map PyData.tuple
  | _ => none
def toPs : List D → Option (List PyData)
  | [] => some []
  | d :: ds => (toP d).bind fun p => (toPs ds).map (p :: ·)
end
section
variable {K : PySem.W.Frag} {B H : Hp} {ρ : List Addr}
mutual
theorem toP_snd (ex : Ex B H) : ∀ {d : D} {v : V} {p : PyData}, Rp K B ρ d v → toP d = some p → Dp K H v p
  | _, _, _, .non, h => by unfold toP at h; cases h; exact .non
  | _, _, _, .bl b, h => by unfold toP at h; cases h; exact .bl b
  | _, _, _, .int i, h => by unfold toP at h; cases h; exact .int i
  | _, _, _, .str s, h => by unfold toP at h; cases h; exact .str s
  | _, _, _, .lst (ds := ds) e r, h => by
    unfold toP at h
    cases hp : toPs ds with
    | none => simp [hp] at h
    | some ps =>
      simp [hp] at h
      subst h
      exact .lst (sq_of (ex _ _ e)) (toPs_snd ex r hp)
  | _, _, _, .tup (ds := ds) e r _, h => by
    unfold toP at h
    cases hp : toPs ds with
    | none => simp [hp] at h
    | some ps =>
      simp [hp] at h
      subst h
      exact .tup (ex_t ex e) (toPs_snd ex r hp)
  | _, _, _, .dct _ _, h => by unfold toP at h; cases h
  | _, _, _, .dcT _ _, h => by unfold toP at h; cases h
  | _, _, _, .ins _ _ _, h => by unfold toP at h; cases h
  | _, _, _, .fn _, h => by unfold toP at h; cases h
  | _, _, _, .scr _, h => by unfold toP at h; cases h
  | _, _, _, .ptr _, h => by unfold toP at h; cases h
  | _, _, _, .raw _, h => by unfold toP at h; cases h
theorem toPs_snd (ex : Ex B H) : ∀ {ds : List D} {vs : List V} {ps : List PyData}, Rps K B ρ ds vs → toPs ds = some ps → DpAll K H vs ps
  | _, _, _, .nil, h => by unfold toPs at h; cases h; exact .nil
  | _, _, _, .cons (d := d) (ds := ds) r rs, h => by
    unfold toPs at h
    cases hp : toP d with
    | none => simp [hp] at h
    | some p =>
      cases hq : toPs ds with
      | none => simp [hp, hq] at h
      | some ps =>
        simp [hp, hq] at h
        subst h
        exact .cons (toP_snd ex r hp) (toPs_snd ex rs hq)
end
end
theorem bt_len : bootBuiltins "len" = some (.builtin "len") := by decide +kernel
theorem bt_abs : bootBuiltins "abs" = some (.builtin "abs") := by decide +kernel
theorem bt_max : bootBuiltins "max" = some (.builtin "max") := by decide +kernel
theorem bt_min : bootBuiltins "min" = some (.builtin "min") := by decide +kernel
theorem bt_all : bootBuiltins "all" = some (.builtin "all") := by decide +kernel
theorem bt_isinstance : bootBuiltins "isinstance" = some (.builtin "isinstance") := by decide +kernel
theorem bt_sorted : bootBuiltins "sorted" = some (.builtin "sorted") := by decide +kernel
theorem bt_int : bootBuiltins "int" = some (.type "int") := by decide +kernel
theorem bt_str : bootBuiltins "str" = some (.type "str") := by decide +kernel
theorem bt_tuple : bootBuiltins "tuple" = some (.type "tuple") := by decide +kernel
end Dn
namespace Dn
open PySem PyProof.Rows L2 Evl
/-- a def called with keywords behind n values, in the parameters' order -/
structure FnKD (P : Program) (w : World) (K : PySem.W.Frag) (mg : Str → Option Value) (base : Heap) (k : Nat) (x : Str) (n : Nat) (ks : List Str) (f : Fn) : Prop where
  ex : ∃ (a : Addr) (fd : FuncData) (ps : List Str), FnOk P w K mg base CX0 k a fd ps (spF K mg (n + ks.length) f) ∧ mg x = some (.ref a) ∧ PySem.W.keepIn K (.ref a) = true ∧ KBn K fd ps n ks (fun us ws => us ++ ws) (fun vs zs => vs ++ zs)
section
variable {X : Cx} {W : WX} {e : Expr} {es : List Expr} {fa fk : XA} {pos : Pos}
def xFnK' (n k : Nat) (f : Fn) (fa fk : XA) : XE := fun η M => (fa η M).bind fun ds M1 => (fk η M1).bind fun cs M2 => if ds.length = n ∧ cs.length = k then f (ds ++ cs) M2 else .no
end
end Dn
namespace Dn
open PySem PyProof.Rows L2 Evl
theorem fn_okE {P : Program} {w : World} {K : PySem.W.Frag} {mg : Str → Option Value} {base : Heap} {x qual : Str} {st : Stmt} {f : Addr} {fd : FuncData} {N ps : List Str} {k n m lv : Nat} {body : XS} {fF : Fn} (F : Fun K x qual st f fd) (S : FnScope N ps (defScope st))
    (hf : fF = callB n m body) (hn : ps.length = n) (hm : N.length = m) (hlv : lv = k + 1)
    (hb : ∀ (cdv : Value) (A : Around) (outer : List Env) (s : Shared) (H : Hp) (E : XK) (W : WX), Room k (A.deeper (envOfC qual (defScope st) s.heap.objs.size f cdv)) → DSs (cxOf CX0 P w K mg base N qual (defScope st) f cdv A outer s H E).nox W (defBody st) body) :
    FnOk P w K mg base CX0 lv f fd ps (spF K mg n fF) := by
  subst hf hn hm hlv
  exact fn_ok F S hb
end Dn
namespace Dn
open PySem PyProof.Rows L2 Evl
/-! ### the end of a law -/
def spLaw (K : PySem.W.Frag) : Sp := fun vs H Q _ => ∃ (a : Addr) (ns : List Int), vs = [.ref a] ∧ SqL K H a (ns.map V.int) ∧ ns.length ≤ 63 ∧ (∀ z ∈ ns, Builtin.Int.intBits z ≤ 1048576) ∧ ∀ H', Q (.bl true) H'
theorem law_sp {K : PySem.W.Frag} {mg : Str → Option Value} {f : Fn} (h : ∀ ns : List Int, ns.length ≤ 63 → (∀ z ∈ ns, Builtin.Int.intBits z ≤ 1048576) → ∃ M', f [.scr ns] [] = .ok (.bl true) M') : ∀ vs H Q E, spLaw K vs H Q E → spF K mg 1 f vs H Q E := by
  intro vs H Q E ⟨a, ns, ev, hs, hl, hb, k⟩
  subst ev
  obtain ⟨M', e⟩ := h ns hl hb
  refine ⟨fun _ _ _ => False, [.scr ns], fun _ => none, H, [], [], rfl, .cons (.scr hs) .nil, ⟨Ex.refl H, fun _ _ e => (nomatch e), fun _ _ e => (nomatch e), rfl, List.nodup_nil, fun n o e => (by simp at e), fun _ _ e => (nomatch e)⟩, ?_⟩
  rw [e]
  intro B' ρ' H' _ _ v r
  cases r
  exact k H'
end Dn

/-! DnSort: sorted of any data, sorted by key=f, < of any data -/
namespace Dn
open PySem PyProof.Rows L2 Evl
open PySem.W (alike dataLt dataLe AllAlike Sortable EachIs)
def pD (d : D) : PyData := (toP d).getD .none
def isT1 : PyData → Bool
  | .tuple (_ :: _) => true
  | _ => false
def notT : PyData → Bool
  | .none => false
  | .tuple _ => false
  | _ => true
def sortOk (ps : List PyData) : Bool := (ps.all fun a => ps.all fun b => alike a b) && (ps.all isT1 || ps.all notT) && ps.all fun p => decide (p.depth ≤ 60)
section
variable {X : Cx} {W : WX} {pins : List (Addr × Obj)} {σ : L2.St} {H B : Hp} {ρ : List Addr} {s : Shared}
end
/-! ### sorted(xs) -/
section
variable {X : Cx} {W : WX}
end
end Dn
namespace Dn
open PySem PyProof.Rows L2 Evl
open PySem.W (alike dataLt dataLe AllAlike Sortable EachIs)
/-! ### sorted(xs, key=f) -/
def keysR (f : Fn) : List D → Mem → R (List D)
  | [], M => .ok [] M
  | d :: ds, M => (f [d] M).bind fun k M1 => (keysR f ds M1).bind fun ks M2 => .ok (k :: ks) M2
noncomputable def sortBy (ks es : List D) : List D := ((es.zip ks).mergeSort (dataLe false fun p => pD p.2)).map Prod.fst
noncomputable def sortK (es ks : List D) : Option (List D) := if ks.length = es.length then (toPs ks).bind fun ps => if sortOk ps = true then some (sortBy ks es) else none else none
/-- amid sorted -/
def inX (X : Cx) : Cx := { X with A := X.A.in1.in1, xe := fun _ _ => False }
section
variable {X : Cx} {pins : List (Addr × Obj)} {σ : L2.St} {H : Hp} {s : Shared}
end
theorem vals_get : ∀ {xs : List V} {us : List Value} {j : Nat} {u : Value}, Vals xs us → us[j]? = some u → ∃ x, xs[j]? = some x ∧ RelV x u
  | _, _, _, _, .nil, h => by simp at h
  | _, _, 0, _, .cons r _, h => by simp at h; subst h; exact ⟨_, rfl, r⟩
  | _, _, j + 1, u, .cons _ t, h => by
    obtain ⟨x, h1, h2⟩ := vals_get (j := j) (u := u) t (by simpa using h)
    exact ⟨x, by simpa using h1, h2⟩
section
variable {X : Cx} {W : WX}
/-- amid the keys -/
structure AtKey (fin : List D → Mem → R D) (X : Cx) (W : XK) (f : Fn) (pins : List (Addr × Obj)) (σ : L2.St) (Q : VK) (F B : Hp) (ρ : List Addr) (es : List D) (kS a : Addr) (e1 i : Nat) (s' : Shared) : Prop where
  ex : ∃ H B1 ρ1 M kA e dks vks, Inv (inX X) ([(kS, seqObj "list" kA e), (a, seqObj "list" #[] e1)] ++ pins) σ H s' ∧ Le B ρ B1 ρ1 ∧ MR X.K F B1 ρ1 M H ∧ Rps X.K B1 ρ1 dks vks ∧ Vals vks kA.toList ∧ dks.length = i ∧
    Wp X.K X.mg F B1 ρ1 W (fun d B' ρ' H' => ∀ v, Rp X.K B' ρ' d v → Q v H') ((keysR f (es.drop i) M).bind fun ks M3 => (R.of (sortK es (dks ++ ks)) M3).bind fin)
/-- a thing of ours, whatever the heap -/
structure Ours (X : Cx) (pins : List (Addr × Obj)) (b : Addr) : Prop where
  u : (b ∈ X.ex ∨ X.s_0.heap.objs.size ≤ b) ∧ (∀ x c, X.env.cells.lookup x = some c → c ≠ b) ∧ ∀ p ∈ X.pn ++ pins, p.1 ≠ b
theorem Ours.fp {pins : List (Addr × Obj)} {H : Hp} {b : Addr} (o : Ours X pins b) (h1 : H b = none) (h2 : b ≠ X.env.locals) (h3 : b ∉ X.fs) : FpOk (inX X) pins H b := ⟨h1, h2, h3, o.u⟩
end
end Dn

/-! DnMore: range(a, b), sum, any, in, == with things that may change, append and reverse, name = [..] -/
namespace Dn
open PySem PyProof.Rows L2 Evl
section
variable {X : Cx} {W : WX} {a b c e o tg it : Expr} {es : List Expr} {f g k : XE} {fa : XA} {p : XT} {pos apos : Pos}
/-! ### range(a, b) -/
/-! ### sum, any -/
/-! ### == with things that may change -/
def toPM (M : Mem) : D → Option PyData
  | .ptr n => match M[n]? with
    | some (.lst ds) => (toPs ds).map PyData.list
    | _ => none
  | d => toP d
theorem toPM_snd {K : PySem.W.Frag} {F B H : Hp} {ρ : List Addr} {M : Mem} (m : MR K F B ρ M H) {d : D} {v : V} {p : PyData} (r : Rp K B ρ d v) (h : toPM M d = some p) : Dp K H v p := by
  cases r with
  | @ptr n a ha =>
    have h' : (match M[n]? with | some (.lst ds) => (toPs ds).map PyData.list | _ => none) = some p := h
    split at h'
    · next ds hm =>
      obtain ⟨vs, hH, rs, hB⟩ := m.list ha hm
      cases hp : toPs ds with
      | none => simp [hp] at h'
      | some ps =>
        simp [hp] at h'
        subst h'
        exact .lst (sq_of hH) (toPs_snd m.ex rs hp)
    · cases h'
  | non => exact toP_snd (ρ := ρ) m.ex .non h
  | bl b => exact toP_snd (ρ := ρ) m.ex (.bl b) h
  | int b => exact toP_snd (ρ := ρ) m.ex (.int b) h
  | str b => exact toP_snd (ρ := ρ) m.ex (.str b) h
  | lst e q => exact toP_snd m.ex (.lst e q) h
  | tup e q z => exact toP_snd m.ex (.tup e q z) h
  | dct e q => exact toP_snd m.ex (.dct e q) h
  | dcT e q => exact toP_snd m.ex (.dcT e q) h
  | ins c e q => exact toP_snd m.ex (.ins c e q) h
  | fn c => exact toP_snd (ρ := ρ) m.ex (.fn c) h
  | scr e => exact toP_snd (ρ := ρ) m.ex (.scr e) h
  | raw v => exact toP_snd (ρ := ρ) m.ex (.raw v) h
mutual
theorem toP_plain : ∀ {d : D} {p : PyData}, toP d = some p → p.plain = true
  | .non, _, h => by unfold toP at h; cases h; rfl
  | .bl _, _, h => by unfold toP at h; cases h; rfl
  | .int _, _, h => by unfold toP at h; cases h; rfl
  | .str _, _, h => by unfold toP at h; cases h; rfl
  | .lst ds, _, h => by
    unfold toP at h
    cases hp : toPs ds with
    | none => simp [hp] at h
    | some ps => simp [hp] at h; subst h; simp only [PyData.plain]; exact toPs_plain hp
  | .tup ds, _, h => by
    unfold toP at h
    cases hp : toPs ds with
    | none => simp [hp] at h
    | some ps => simp [hp] at h; subst h; simp only [PyData.plain]; exact toPs_plain hp
  | .dct _, _, h => by unfold toP at h; cases h
  | .dcT _, _, h => by unfold toP at h; cases h
  | .ins _ _, _, h => by unfold toP at h; cases h
  | .fn _, _, h => by unfold toP at h; cases h
  | .scr _, _, h => by unfold toP at h; cases h
  | .ptr _, _, h => by unfold toP at h; cases h
  | .raw _, _, h => by unfold toP at h; cases h
theorem toPs_plain : ∀ {ds : List D} {ps : List PyData}, toPs ds = some ps → PyData.plainAll ps = true
  | [], _, h => by unfold toPs at h; cases h; rfl
  | d :: ds, _, h => by
    unfold toPs at h
    cases h1 : toP d with
    | none => simp [h1] at h
    | some p =>
      cases h2 : toPs ds with
      | none => simp [h1, h2] at h
      | some ps =>
        simp [h1, h2] at h
        subst h
        simp only [PyData.plainAll, toP_plain h1, toPs_plain h2, Bool.and_self]
end
theorem toPM_plain {M : Mem} {d : D} {p : PyData} (h : toPM M d = some p) : p.plain = true := by
  unfold toPM at h
  split at h
  · split at h
    · next ds _ =>
      cases hp : toPs ds with
      | none => simp [hp] at h
      | some ps => simp [hp] at h; subst h; simp only [PyData.plain]; exact toPs_plain hp
    · cases h
  · exact toP_plain h
def eqM (neg : Bool) : Op2 := fun M x y => (toPM M x).bind fun p => (toPM M y).bind fun q => if p.depth ≤ 60 then some (.bl (if neg then !PyData.eqv p q else PyData.eqv p q)) else none
theorem eqM_some {neg : Bool} {M : Mem} {x y z : D} (h : eqM neg M x y = some z) : ∃ p q, toPM M x = some p ∧ toPM M y = some q ∧ p.depth ≤ 60 ∧ z = .bl (if neg then !PyData.eqv p q else PyData.eqv p q) := by
  unfold eqM at h
  cases h1 : toPM M x with
  | none => simp [h1] at h
  | some p =>
    cases h2 : toPM M y with
    | none => simp [h1, h2] at h
    | some q =>
      simp only [h1, h2, Option.bind_some] at h
      split at h
      · next hs => exact ⟨p, q, rfl, rfl, hs, (Option.some.inj h).symm⟩
      · cases h
def rEqP (K : PySem.W.Frag) (neg : Bool) : R2 := fun x y H Q => ∃ p q, Dp K H x p ∧ Dp K H y q ∧ p.plain = true ∧ q.plain = true ∧ p.depth ≤ 60 ∧ Q (.bl (if neg then !PyData.eqv p q else PyData.eqv p q)) H
theorem op_eqP {k : Nat} (hr : Room k X.A) : OpR X (compareOp .Eq) (rEqP X.K false) := by
  intro pins s σ H x y v u Q I rx ry h
  obtain ⟨p, q, hp, hq, pp, pq, hd, z⟩ := h
  obtain ⟨as, r1⟩ := Dp.reads I p x v hp rx
  obtain ⟨bs, r2⟩ := Dp.reads I q y u hq ry
  have hu := hr.un
  exact PySem.SeqAt.eq_plain r1 r2 pp pq (by omega) ⟨.bl _, H, I, rfl, z⟩
theorem op_neP {k : Nat} (hr : Room k X.A) : OpR X (compareOp .NotEq) (rEqP X.K true) := by
  intro pins s σ H x y v u Q I rx ry h
  obtain ⟨p, q, hp, hq, pp, pq, hd, z⟩ := h
  obtain ⟨as, r1⟩ := Dp.reads I p x v hp rx
  obtain ⟨bs, r2⟩ := Dp.reads I q y u hq ry
  have hu := hr.un
  exact PySem.SeqAt.ne_plain r1 r2 pp pq (by omega) ⟨.bl _, H, I, rfl, z⟩
theorem od_eqM {k : Nat} (hr : Room k X.A) : OpD X (compareOp .Eq) (eqM false) := by
  refine ⟨_, op_eqP hr, fun F B ρ M H x y dx dy dz Q m rx ry e k => ?_⟩
  obtain ⟨p, q, h1, h2, h3, rfl⟩ := eqM_some e
  exact ⟨p, q, toPM_snd m rx h1, toPM_snd m ry h2, toPM_plain h1, toPM_plain h2, h3, k.same m (.bl _)⟩
theorem od_neM {k : Nat} (hr : Room k X.A) : OpD X (compareOp .NotEq) (eqM true) := by
  refine ⟨_, op_neP hr, fun F B ρ M H x y dx dy dz Q m rx ry e k => ?_⟩
  obtain ⟨p, q, h1, h2, h3, rfl⟩ := eqM_some e
  exact ⟨p, q, toPM_snd m rx h1, toPM_snd m ry h2, toPM_plain h1, toPM_plain h2, h3, k.same m (.bl _)⟩
/-- a tuple == () -/
def rEqT0 (K : PySem.W.Frag) : R2 := fun x y H Q => ∃ (a b : Addr) (xs : List V), x = .ref a ∧ y = .ref b ∧ SqT K H a xs ∧ SqT K H b [] ∧ Q (.bl (decide (xs.length = 0))) H
def eqT0 : Op2 := fun _ x y => match x, y with
  | .tup ds, .tup [] => some (.bl (decide (ds.length = 0)))
  | _, _ => none
theorem op_eqT0 {k : Nat} (hr : Room k X.A) : OpR X (compareOp .Eq) (rEqT0 X.K) := by
  intro pins s σ H x y v u Q I rx ry h
  obtain ⟨a, b, xs, rfl, rfl, hs, ht, q⟩ := h
  cases rx
  cases ry
  obtain ⟨its, r, pl, hz⟩ := I.tuple hs
  obtain ⟨it2, r2, pl2, hz2⟩ := I.tuple ht
  cases r2
  have hu := hr.un
  have hl : xs.length = its.length := r.length
  refine SeqAt.eq_tupleAt (e := fun _ => true) pl pl2 (by omega) (fun j h1 h2 => absurd h2 (by simp)) ⟨.bl (decide (xs.length = 0)), H, I, ?_, q⟩
  show _ = Value.bool _
  congr 1
  rw [hl]
  cases its <;> simp
theorem od_eqT0 {k : Nat} (hr : Room k X.A) : OpD X (compareOp .Eq) eqT0 := by
  refine ⟨_, op_eqT0 hr, fun F B ρ M H x y dx dy dz Q m rx ry e k => ?_⟩
  unfold eqT0 at e
  split at e
  · next ds =>
    obtain rfl := Option.some.inj e
    obtain ⟨a, vs, rfl, hs, rs⟩ := asT_snd m rx (ds := ds) rfl
    obtain ⟨b, us, rfl, ht, rt⟩ := asT_snd m ry (ds := []) rfl
    cases rt
    refine ⟨a, b, vs, rfl, rfl, hs, ht, ?_⟩
    rw [← rs.len]
    exact k.same m (.bl _)
  · cases e
def dEq : Op2 := oOr (eqM false) eqT0
theorem od_eq2 {k : Nat} (hr : Room k X.A) : OpD X (compareOp .Eq) dEq := (od_eqM hr).or (od_eqT0 hr)
/-! ### in -/
/-! ### lists that change -/
/-! ### name = [.. for ..] -/
theorem ds_setLc {i : Nat} {y : Str} {py spos : Pos} {elt : Expr} {ifs : List Expr} {scope : Scope} {own : List (Str × Nat)} {fi : XI} {ts : List Nat} {gt : XG} {t : XT} {W' : WX} {fin : List D → Mem → R D} (hf : FinOk fin) (hc : X.calm = true) (hN : X.N.Nodup) (hi : DI X W tg it fi) (ok : BlkOk X.N X.env.scope scope own)
    (hg : ∀ (s : Shared) (H : Hp) (C : Addr) (cl : List (Str × Addr)) (fp : List Addr), DG (X.blk s H scope (compEnvC scope cl C X.env) fp) W' tg ts gt) (ht : ∀ (s : Shared) (H : Hp) (C : Addr) (cl : List (Str × Addr)) (fp : List Addr), DTs (X.blk s H scope (compEnvC scope cl C X.env) fp) W' ifs t)
    (he : ∀ (s : Shared) (H : Hp) (C : Addr) (cl : List (Str × Addr)) (fp : List Addr), DE (X.blk s H scope (compEnvC scope cl C X.env) fp) W' elt f) (hts : ∀ i ∈ ts, i ∈ own.map (·.2)) (hy : X.N[i]? = some y := by rfl) (hyl : X.env.scope.names.lookup y = some .local := by rfl)
    (hsw : swapsWith (.ListComp elt [⟨tg, it, ifs, 0⟩] scope pos) (some (.Name y py)) spos.line X.env = pure true := by rfl) (hs : ∀ x, foldedSetIterable it X.env x = pure x := by intro _; rfl) :
    DS X W (.Assign [.Name y py] (.ListComp elt [⟨tg, it, ifs, 0⟩] scope pos) spos) (xAsg (xLc fin fi gt t f (own.map (·.2))) (xgName i)) :=
  PS.imp (ps_setLc (g := tG X.K X.mg W' ts gt) (tt := tT X.K X.mg W' t) (te := tE X.K X.mg W' f) hc hN hy hyl hsw hi ok hg ht he hs) fun E σ H z => de_lc.lcGo hf hts σ H _ (set_snd E σ H z)
end
end Dn

/-! DnPtr: walks over lists that may change (but do not while they are walked) -/
namespace Dn
open PySem L2 Evl
abbrev XP := Dv → Mem → R (Option Nat × List D)
/-- the list at n is still ds (or it is one that stays) -/
def Ck (n : Option Nat) (ds : List D) (M : Mem) : Prop := match n with
  | none => True
  | some n => M[n]? = some (.lst ds)
structure WalkP (K : PySem.W.Frag) (J : It) (B : Hp) (ρ : List Addr) (n : Option Nat) (ds : List D) : Prop where
  w : ∃ (G : Hp → Prop) (Y : Nat → Hp → V → Hp → Prop), Walk J ds.length G Y ∧ (∀ F B1 ρ1 M H, Le B ρ B1 ρ1 → MR K F B1 ρ1 M H → Ck n ds M → G H) ∧
    ∀ (i : Nat) (d : D), ds[i]? = some d → ∀ F B1 ρ1 M H x H2, Le B ρ B1 ρ1 → MR K F B1 ρ1 M H → Ck n ds M → Y i H x H2 → ∃ B2, Le B1 ρ1 B2 ρ1 ∧ MR K F B2 ρ1 M H2 ∧ Rp K B2 ρ1 d x ∧ Ex H H2
section
variable {X : Cx} {W : WX} {a b c e o tg it : Expr} {es : List Expr} {f g k : XE} {fa : XA} {p : XT} {pos : Pos}
end
end Dn

/-! DnZip: zip of two things, each a list or a tuple -/
namespace Dn
open PySem PySem.Spec PyProof.Rows L2 Evl
/-- what stands behind one of zip's iterators: T it at a place, L the thing walked -/
structure Nx (it l : Addr) (xs : Array Value) (T : Heap → Nat → Prop) (L : Heap → Prop) : Prop where
  item : ∀ {prog : Program} {w : World} {A : Around} {E : Value → Shared → Prop} {s : Shared} {k : Nat} {x : Value} {Q : Value → Shared → Prop}, T s.heap k → L s.heap → xs[k]? = some x → (∀ h', T h' (k + 1) → Heap.SameBut it s.heap h' → Q x { s with heap := h' }) →
    wpAny (model prog w) A (Builtin.SmallTypes.nextOf (.ref it)) Q E s
  fin : ∀ {prog : Program} {w : World} {A : Around} {E : Value → Shared → Prop} {s : Shared} {k : Nat} {Q : Value → Shared → Prop}, A.handled = none → T s.heap k → L s.heap → xs[k]? = none →
    (∀ h' e, Heap.ExtBut it s.heap h' → (∃ o, h'.get? e = some o ∧ o.cls = .type "StopIteration") → E (.ref e) { s with heap := h' }) → wpAny (model prog w) A (Builtin.SmallTypes.nextOf (.ref it)) Q E s
  kT : ∀ {h h' : Heap} {k : Nat}, T h k → (∀ o, h.get? it = some o → h'.get? it = some o) → T h' k
  kL : ∀ {h h' : Heap}, L h → (∀ o, h.get? l = some o → h'.get? l = some o) → L h'
  obj : ∀ {h : Heap} {k : Nat}, T h k → ∃ o, h.get? it = some o ∧ ∀ v, o.data ≠ .cell v
section
variable {prog : Program} {w : World} {A : Around} {E : Value → Shared → Prop} {s : Shared} {z TI TO i1 i2 l1 l2 : Addr} {k1 k2 : Nat} {xs ys : Array Value} {T1 T2 : Heap → Nat → Prop} {L1 L2 : Heap → Prop} {a b : Value}
end
end Dn
namespace Dn
open PySem PySem.Spec PyProof.Rows L2 Evl
section
variable {prog : Program} {w : World} {A : Around} {E : Value → Shared → Prop} {s : Shared}
end
section
variable {X : Cx} {W : WX} {e e2 : Expr} {fa : XA}
end
end Dn

/-! DnDict: dicts by tuples of texts and ints -/
namespace Dn
open PySem PyProof.Rows L2 Evl
section
variable {K : PySem.W.Frag} {F B H : Hp} {ρ : List Addr} {M : Mem}
end
section
variable {κ : Type} [DecidableEq κ]
variable {K : PySem.W.Frag} {B : Hp} {ρ : List Addr}
end
section
variable {X : Cx} {W : WX} {o i e value : Expr} {pos pos' apos : Pos} {f g h : XE}
end
end Dn

/-! DnCls: instances: fields, methods, making, freezing -/
namespace Dn
open PySem PyProof.Rows L2 Evl
/-- a class by its name, with fields that no class of it has -/
structure ClsD (K : PySem.W.Frag) (x : Str) (fls : List Str) : Prop where
  ex : ∃ C : Addr, PySem.W.nsIn K mainGlobals x = some (some (.ref C)) ∧ Cls K C ∧ ∀ f ∈ fls, NoAttr K C f
def asIns (M : Mem) : D → Option (Str × List (Str × D))
  | .ins x fs => some (x, fs)
  | .ptr n => match M[n]? with
    | some (.ins x fs) => some (x, fs)
    | _ => none
  | _ => none
section
variable {X : Cx} {W : WX} {o e value : Expr} {es : List Expr} {pos pos' apos : Pos} {f g fo : XE} {fa : XA} {x fl m : Str} {fls : List Str}
theorem MR.inst {K : PySem.W.Frag} {F B H : Hp} {ρ : List Addr} {M : Mem} (m : MR K F B ρ M H) {n : Nat} {a : Addr} {x : Str} {fs : List (Str × D)} (ha : ρ[n]? = some a) (hm : M[n]? = some (.ins x fs)) :
    ∃ (C dx : Addr) (gs : List (Str × V)), PySem.W.nsIn K mainGlobals x = some (some (.ref C)) ∧ H a = some (.ins C dx gs) ∧ Paired (PrD K B ρ) fs gs ∧ B a = none := by
  obtain ⟨b, hb, hB, C, dx, gs, hc, e, r⟩ := m.ob n _ hm
  rw [ha] at hb
  cases hb
  exact ⟨C, dx, gs, hc, e, r, hB (by intro z; cases z)⟩
theorem asIns_snd {K : PySem.W.Frag} {F B H : Hp} {ρ : List Addr} {M : Mem} (m : MR K F B ρ M H) {d : D} {v : V} {x : Str} {fs : List (Str × D)} (r : Rp K B ρ d v) (h : asIns M d = some (x, fs)) :
    ∃ (a C dx : Addr) (gs : List (Str × V)), v = .ref a ∧ PySem.W.nsIn K mainGlobals x = some (some (.ref C)) ∧ H a = some (.ins C dx gs) ∧ Paired (PrD K B ρ) fs gs := by
  cases r with
  | @ptr n a ha =>
    unfold asIns at h
    dsimp only at h
    split at h
    · next y gs hm =>
      cases h
      obtain ⟨C, dx, gs, hc, e, q, _⟩ := m.inst ha hm
      exact ⟨a, C, dx, gs, rfl, hc, e, q⟩
    · cases h
  | @ins a C dx y gs fs hc e q =>
    cases h
    exact ⟨a, C, dx, gs, rfl, hc, m.ex _ _ e, q.prs⟩
  | _ => cases h
theorem look_snd {K : PySem.W.Frag} {B : Hp} {ρ : List Addr} {fl : Str} {d : D} : ∀ {fs : List (Str × D)} {gs : List (Str × V)}, Paired (PrD K B ρ) fs gs → fs.lookup fl = some d → ∃ v, gs.lookup fl = some v ∧ Rp K B ρ d v
  | _, _, .nil, h => by simp at h
  | (a, d0) :: _, (b, v0) :: _, .cons r t, h => by
    obtain ⟨r1, r2⟩ := r
    have r1 : a = b := r1
    subst r1
    rw [List.lookup_cons] at h ⊢
    split at h
    · next e => cases h; exact ⟨v0, by simp, r2⟩
    · next e => exact look_snd t h
/-- o.fl, a field of an instance of x -/
def xFld (x fl : Str) (f : XE) : XE := fun η M => (f η M).bind fun d M1 => match asIns M1 d with
  | some (y, fs) => if y = x then R.of (fs.lookup fl) M1 else .no
  | none => .no
theorem de_fld (c : ClsD X.K x fls) (hf : fl ∈ fls) (ho : DE X W o f) (hb : attributeBase o fl X.env (eval o X.env) = eval o X.env := by rfl) : DE X W (.Attribute o fl pos) (xFld x fl f) := PE.imp (pe_fld ho hb) fun σ H Q z => by
  obtain ⟨C, hC, cl, na⟩ := c.ex
  obtain ⟨η, F, B, ρ, M, er, m, w⟩ := z
  refine ⟨η, F, B, ρ, M, er, m, w.bind fun d M1 B1 ρ1 H1 l1 m1 w1 v rv => ?_⟩
  split at w1
  · next y fs hi =>
    split at w1
    · next hy =>
      subst hy
      obtain ⟨dz, hz, w2⟩ := w1.of
      obtain ⟨a, C', dx, gs, rfl, hc, hH, pr⟩ := asIns_snd m1 rv hi
      rw [hC] at hc
      cases hc
      obtain ⟨v, hv, rv⟩ := look_snd pr hz
      exact ⟨a, C, dx, gs, v, rfl, hH, cl, na fl hf, hv, Wp.ret w2 m1 v rv⟩
    · exact w1.elim
  · exact w1.elim
/-- o.fl = v -/
def putFD (f : Str) (v : D) : List (Str × D) → List (Str × D)
  | [] => [(f, v)]
  | (g, x) :: r => if g = f then (g, v) :: r else (g, x) :: putFD f v r
theorem putFD_snd {K : PySem.W.Frag} {B : Hp} {ρ : List Addr} {fl : Str} {d : D} {v : V} (h : Rp K B ρ d v) : ∀ {fs : List (Str × D)} {gs : List (Str × V)}, Paired (PrD K B ρ) fs gs →
    Paired (PrD K B ρ) (putFD fl d fs) (putF fl v gs)
  | _, _, .nil => .cons ⟨rfl, h⟩ .nil
  | (a, d0) :: _, (b, v0) :: _, .cons r t => by
    obtain ⟨r1, r2⟩ := r
    have r1 : a = b := r1
    subst r1
    unfold putFD putF
    by_cases e : a = fl
    · rw [if_pos e, if_pos e]; exact .cons ⟨rfl, h⟩ t
    · rw [if_neg e, if_neg e]; exact .cons ⟨rfl, r2⟩ (putFD_snd h t)
/-- told otherwise -/
theorem putFD_tell {K : PySem.W.Frag} {B : Hp} {ρ : List Addr} {fl : Str} {d : D} {v : V} (h : Rp K B ρ d v) : ∀ {fs : List (Str × D)} {gs : List (Str × V)}, Paired (PrD K B ρ) fs gs → gs.lookup fl = some v → Paired (PrD K B ρ) (putFD fl d fs) gs
  | _, _, .nil, q => by simp at q
  | (a, d0) :: _, (b, v0) :: _, .cons r t, q => by
    obtain ⟨r1, r2⟩ := r
    have r1 : a = b := r1
    subst r1
    unfold putFD
    rw [List.lookup_cons] at q
    by_cases e : a = fl
    · subst e
      simp at q
      subst q
      rw [if_pos rfl]; exact .cons ⟨rfl, h⟩ t
    · have e' : (fl == a) = false := by simpa using fun z => e z.symm
      rw [e'] at q
      rw [if_neg e]; exact .cons ⟨rfl, r2⟩ (putFD_tell h t q)
def xSetF (x fl : Str) (v o : XE) : XS := fun η M => (v η M).bind fun d M1 => (o η M1).bind fun y M2 => match y with
  | .ptr n => match M2[n]? with
    | some (.ins y fs) => if y = x ∧ fs.length < 1000 then .ok (.nx η) (M2.set n (.ins y (putFD fl d fs))) else .no
    | _ => .no
  | _ => .no
theorem fs_len {K : PySem.W.Frag} {B : Hp} {ρ : List Addr} : ∀ {fs : List (Str × D)} {gs : List (Str × V)}, Paired (PrD K B ρ) fs gs → fs.length = gs.length
  | _, _, .nil => rfl
  | _, _, .cons _ t => by simp [fs_len t]
theorem ds_setF (c : ClsD X.K x fls) (hf : fl ∈ fls) (hv : DE X W value g) (ho : DE X W o f) (hs : swapsWith value (some (.Attribute o fl pos')) pos.line X.env = pure false := by rfl) : DS X W (.Assign [.Attribute o fl pos'] value pos) (xSetF x fl g f) := PS.imp (ps_fld ho hv hs) fun E σ H z => by
  obtain ⟨C, hC, cl, na⟩ := c.ex
  obtain ⟨η, F, B, ρ, M, er, m, w⟩ := z
  refine ⟨η, F, B, ρ, M, er, m, w.bind fun dv M1 B1 ρ1 H1 l1 m1 w1 v rv => ?_⟩
  refine ⟨η, F, B1, ρ1, M1, er.mono l1, m1, w1.bind fun dy M2 B2 ρ2 H2 l2 m2 w2 y ry => ?_⟩
  cases ry with
  | @ptr n a ha =>
    dsimp only at w2
    split at w2
    · next y fs hm =>
      split at w2
      · next hy =>
        obtain ⟨hy, hlt⟩ := hy
        subst hy
        obtain ⟨C', dx, gs, hc, hH, pr, _⟩ := m2.inst ha hm
        rw [hC] at hc
        cases hc
        have hl := fs_len pr
        refine ⟨a, C, dx, gs, rfl, hH, cl, na fl hf, by omega, ?_⟩
        exact w2 _ _ _ (Le.refl _ _) (m2.put (o := .ins C dx (putF fl v gs)) (ob := .ins y (putFD fl dv fs)) ha hm (by intro z; cases z) ⟨C, dx, _, hC, upd_same, putFD_snd (rv.mono l2) pr⟩) σ (er.mono (l1.trans l2))
      · exact w2.elim
    · exact w2.elim
  | _ => exact w2.elim

/-! ### methods, making -/
/-- a method of the class x: n parameters, self among them -/
structure MtD (P : Program) (w : World) (K : PySem.W.Frag) (mg : Str → Option Value) (base : Heap) (k : Nat) (x m : Str) (n : Nat) (f : Fn) : Prop where
  ex : ∃ (C a : Addr) (fd : FuncData) (ps : List Str), PySem.W.nsIn K mainGlobals x = some (some (.ref C)) ∧ Cls K C ∧ Meth K C m a ∧ FnOk P w K mg base CX0 k a fd ps (spF K mg n f) ∧ Binds K fd ps []
/-- how the class x is made: by n values; dfl fill up -/
structure MkD (P : Program) (w : World) (K : PySem.W.Frag) (mg : Str → Option Value) (base : Heap) (k : Nat) (x : Str) (n : Nat) (dfl : List D) (f : Fn) : Prop where
  ex : ∃ (C a : Addr) (fd : FuncData) (ps : List Str) (ds : List Value) (dvs : List V), PySem.W.nsIn K mainGlobals x = some (some (.ref C)) ∧ mg x = some (.ref C) ∧ Mk K C a ∧ FnOk P w K mg base CX0 k a fd ps (spF K mg (1 + n + dfl.length) f) ∧ Binds K fd ps ds ∧ Vals dvs ds ∧ ∀ B ρ, Rps K B ρ dfl dvs
def madeD (n : Nat) : D → Mem → R D := fun r M => match r with
  | .non => .ok (.ptr n) M
  | _ => .no
/-! ### freezing -/
/-- a field of a new instance is frozen -/
def frzF (M : Mem) (n : Nat) (fl : Str) : Option Mem := match M[n]? with
  | some (.ins x fs) => match fs.lookup fl with
    | some d => match frz M d with
      | some (d', M') => match M'[n]? with
        | some (.ins y gs) => if y = x ∧ gs.length = fs.length then some (M'.set n (.ins x (putFD fl d' fs))) else none
        | _ => none
      | none => none
    | none => none
  | _ => none
def frzFs (n : Nat) : List Str → Mem → Option Mem
  | [], M => some M
  | fl :: r, M => (frzF M n fl).bind (frzFs n r)
theorem frz_at {M M' : Mem} {d d' : D} {n : Nat} {o : Ob} (h : frz M d = some (d', M')) (hn : M[n]? = some o) (hn' : M'[n]? ≠ some .gone) : M'[n]? = some o := by
  unfold frz at h
  split at h
  · next k =>
    have key : ∀ o', some (o', M.set k Ob.gone) = some (d', M') → M'[n]? = some o := fun o' e => by
      cases e
      by_cases q : n = k
      · subst q
        have hl := (List.getElem?_eq_some_iff.mp hn).1
        exact absurd (List.getElem?_set_self hl) hn'
      · rw [List.getElem?_set_ne (Ne.symm q)]; exact hn
    split at h <;> first | exact key _ h | cases h
  · cases h; exact hn
theorem frzF_snd {K : PySem.W.Frag} {F B H : Hp} {ρ : List Addr} {M M' : Mem} (m : MR K F B ρ M H) {n : Nat} {a : Addr} {fl : Str} (ha : ρ[n]? = some a) (h : frzF M n fl = some M') : Lks (fun H' => ∃ B', Le B ρ B' ρ ∧ MR K F B' ρ M' H') H := by
  unfold frzF at h
  split at h
  · next x fs hm =>
    split at h
    · next d hd =>
      split at h
      · next d' M1 hf =>
        split at h
        · next y gs hm1 =>
          split at h
          · obtain ⟨C, dx, vs, hc, hH, pr, _⟩ := m.inst ha hm
            obtain ⟨v, hv, rv⟩ := look_snd pr hd
            refine (frz_snd m rv hf).bind fun H1 ⟨B1, l1, m1, r1, hi⟩ => .here ?_
            cases h
            have he := frz_at hf hm (by rw [hm1]; intro z; cases z)
            exact ⟨B1, l1, m1.retell ha he (by intro z; cases z) ⟨C, dx, vs, hc, hi _ _ _ _ hH, putFD_tell r1 (Paired.mapP pr fun _ _ z => ⟨z.1, z.2.mono l1⟩) hv⟩⟩
          · cases h
        · cases h
      · cases h
    · cases h
  · cases h
theorem frzFs_snd {K : PySem.W.Frag} {F : Hp} {ρ : List Addr} {n : Nat} {a : Addr} (ha : ρ[n]? = some a) : ∀ {fls : List Str} {B H : Hp} {M M' : Mem}, MR K F B ρ M H → frzFs n fls M = some M' → Lks (fun H' => ∃ B', Le B ρ B' ρ ∧ MR K F B' ρ M' H') H
  | [], B, H, M, M', m, h => by cases h; exact .here ⟨B, Le.refl _ _, m⟩
  | fl :: r, B, H, M, M', m, h => by
    unfold frzFs at h
    cases h1 : frzF M n fl with
    | none => rw [h1] at h; cases h
    | some M1 =>
      rw [h1] at h
      refine (frzF_snd m ha h1).bind fun H1 ⟨B1, l1, m1⟩ => ?_
      exact (frzFs_snd ha m1 h).bind fun H2 ⟨B2, l2, m2⟩ => .here ⟨B2, l1.trans l2, m2⟩
/-- a new instance, its fields and itself are frozen -/
def xFzI (fls : List Str) (f : XE) : XE := fun η M => (f η M).bind fun d M1 => match d with
  | .ptr n => match frzFs n fls M1 with
    | some M2 => match frz M2 (.ptr n) with
      | some (d', M3) => .ok d' M3
      | none => .no
    | none => .no
  | _ => .no
theorem de_fzI (h : DE X W e f) : DE X W e (xFzI fls f) := PE.imp (pe_locks h) fun σ H Q z => by
  obtain ⟨η, F, B, ρ, M, er, m, w⟩ := z
  refine ⟨η, F, B, ρ, M, er, m, w.bind fun d M1 B1 ρ1 H1 l1 m1 w1 v rv => ?_⟩
  split at w1
  · next n =>
    split at w1
    · next M2 h2 =>
      split at w1
      · next d' M3 h3 =>
        cases rv with
        | @ptr _ a ha =>
          refine (frzFs_snd ha m1 h2).bind fun H2 ⟨B2, l2, m2⟩ => ?_
          exact (frz_snd m2 (.ptr (l2.at ha)) h3).bind fun H3 ⟨B3, l3, m3, r3, _⟩ => .here (w1 _ _ _ (l2.trans l3) m3 _ r3)
      · exact w1.elim
    · exact w1.elim
  · exact w1.elim
end
end Dn

/-! DnDic: dicts read -/
namespace Dn
open PySem PyProof.Rows L2 Evl
section
variable {K : PySem.W.Frag} {F B H : Hp} {ρ : List Addr} {M : Mem}
def OptR (K : PySem.W.Frag) (B : Hp) (ρ : List Addr) : Option D → Option V → Prop
  | some d, some v => Rp K B ρ d v
  | none, none => True
  | _, _ => False
theorem OptR.some {d : D} {o : Option V} (h : OptR K B ρ (some d) o) : ∃ v, o = some v ∧ Rp K B ρ d v := by
  cases o with
  | none => exact h.elim
  | some v => exact ⟨v, rfl, h⟩
theorem OptR.isSome {r : Option D} {o : Option V} (h : OptR K B ρ r o) : o.isSome = r.isSome := by
  cases r <;> cases o <;> first | rfl | exact h.elim
theorem OptR.getD {r : Option D} {o : Option V} {d : D} {v : V} (h : OptR K B ρ r o) (q : Rp K B ρ d v) : Rp K B ρ (r.getD d) (o.getD v) := by
  cases r <;> cases o <;> first | exact q | exact h | exact h.elim
end
theorem PE.or {X : Cx} {e : Expr} {t t' : TE} (h : PE X e t) (h' : PE X e t') : PE X e (fun σ H Q => t σ H Q ∨ t' σ H Q) := ⟨fun pins s σ H Q I q => q.elim (h.run pins s σ H Q I) (h'.run pins s σ H Q I)⟩
section
variable {X : Cx} {W : WX} {o i e value a b : Expr} {pos pos' apos cpos : Pos} {f g h : XE}
end
end Dn

/-! DnIt: walks over dicts; dicts made by comprehensions, and of pairs -/
namespace Dn
open PySem PyProof.Rows L2 Evl PySem.Spec
/-! ### the pairs of a locked dict by tuples -/
section
variable {X : Cx} {W : WX} {e tg it : Expr} {f : XE} {apos cpos : Pos}
end
end Dn

/-! DnDc: dicts by tuples made by a comprehension -/
namespace Dn
open PySem PyProof.Rows L2 Evl PySem.Spec
section
variable {X : Cx} {kx vx tg iter : Expr} {ifs : List Expr} {scope : Scope} {own : List (Str × Nat)} {pos pos' : Pos} {wi : TI} {g : TG} {tt : TT} {tk tv : TE}
end
section
variable {X : Cx} {W : WX}
end
end Dn

/-! DnPairs: dict(xs) of a list of pairs -/
namespace Dn
open PySem PyProof.Rows L2 Evl PySem.Spec PySem.Calls
section
variable {prog : Program} {w : World} {A : Around} {E : Value → Shared → Prop}
end
section
variable {X : Cx} {W : WX}
end
end Dn

/-! DnOwn: list methods in general; len by an own __len__ -/
namespace Dn
open PySem PyProof.Rows L2 Evl PySem.Spec
/-! ### methods of a list that may change -/
abbrev OpL := Mem → List D → List D → Option (D × List D)
section
variable {X : Cx} {W : WX} {o e : Expr} {es : List Expr} {f : XE} {fa : XA} {apos pos : Pos} {id : String} {name : Str} {h : OpL}
/-! ### len by an own __len__ -/
/-- an own special method of the class x -/
structure SpD (P : Program) (w : World) (K : PySem.W.Frag) (mg : Str → Option Value) (base : Heap) (k : Nat) (x m : Str) (n : Nat) (f : Fn) : Prop where
  ex : ∃ (C a : Addr) (fd : FuncData) (ps : List Str), PySem.W.nsIn K mainGlobals x = some (some (.ref C)) ∧ PySem.W.findIn K (.ref C) m = some (some (.ref a)) ∧ PySem.W.isFn K (.ref a) = true ∧ FnOk P w K mg base CX0 k a fd ps (spF K mg n f) ∧ Binds K fd ps []
end
end Dn
namespace Dn
open PySem PyProof.Rows L2 Evl PySem.Spec
/-! ### list(xs) that may change -/
section
variable {X : Cx} {W : WX} {e : Expr} {es : List Expr} {fa : XA} {pos : Pos}
end
/-! ### a def whose parameters have defaults -/
theorem fnD_okE {P : Program} {w : World} {K : PySem.W.Frag} {mg : Str → Option Value} {base : Heap} {x qual : Str} {st : Stmt} {dvs : List V} {kws : List (Str × V)} {f : Addr} {fd : FuncData} {N ps : List Str} {k n m lv : Nat} {body : XS} {fF : Fn} (F : FunD K x qual (defArgs st) (defBody st) (defScope st) dvs kws f fd) (S : FnScope N ps (defScope st))
    (hf : fF = callB n m body) (hn : ps.length = n) (hm : N.length = m) (hlv : lv = k + 1)
    (hb : ∀ (cdv : Value) (A : Around) (outer : List Env) (s : Shared) (H : Hp) (E : XK) (W : WX), Room k (A.deeper (envOfC qual (defScope st) s.heap.objs.size f cdv)) → DSs (cxOf CX0 P w K mg base N qual (defScope st) f cdv A outer s H E).nox W (defBody st) body) :
    FnOk P w K mg base CX0 lv f fd ps (spF K mg n fF) := by
  subst hf hn hm hlv
  refine F.ok S (fun vs H Q E h => ?_) (fun cdv A outer s H vs Q E hr h => ?_)
  · obtain ⟨_, ds, _, _, _, _, hl, r, _⟩ := h
    rw [← r.len]
    exact hl
  · obtain ⟨U, ds, Fr, B, ρ, M, hl, r, mm, wp⟩ := h
    refine ⟨_, (hb cdv A outer s H E (fun c d _ H => U c d H) hr).nox, ?_⟩
    have e := er_start (N := N) r
    rw [hl] at e
    refine ⟨_, Fr, B, ρ, M, e, mm, ?_⟩
    unfold callB at wp
    rw [if_pos hl] at wp
    exact wp.bind fun fl M1 B1 ρ1 H1 l1 m1 w1 => by
      cases fl with
      | nx η' => exact fun σ' _ => Wp.ret w1 m1 _ .non
      | rt d => exact fun v rv => Wp.ret w1 m1 v rv
      | bk η' => exact w1.elim
      | ct η' => exact w1.elim
end Dn

/-! DnZipS: zip(a, b, strict=True) of two tuples of one length; zip of three tuples of one length -/
namespace Dn
open PySem PySem.Spec PyProof.Rows L2 Evl
section
variable {prog : Program} {w : World} {A : Around} {E : Value → Shared → Prop} {s : Shared} {z TI TO i1 i2 l1 l2 : Addr} {k1 k2 : Nat} {xs ys : Array Value} {T1 T2 : Heap → Nat → Prop} {L1 L2 : Heap → Prop} {a b : Value}
end
section
variable {prog : Program} {w : World} {A : Around} {E : Value → Shared → Prop} {s : Shared}
end
section
variable {M : Model} {A : Around} {E : Value → Shared → Prop} {s : Shared} {env : Env}
end
section
variable {X : Cx} {W : WX} {e e2 : Expr} {fa : XA}
end
end Dn

/-! DnDEq: == of two dicts whose keys are tuples and whose values are ints -/
namespace Dn
open PySem PySem.Spec PyProof.Rows L2 Evl
section
variable {prog : Program} {w : World} {K : Type} [DecidableEq K] {knd : HeapKind prog w K} {A : Around} {E : Value → Shared → Prop} {s : Shared}
/-- the rows of the one looked up in the other -/
inductive Met (A : Around) (s : Shared) (ys : List (K × Addr × Value)) : List (K × Addr × Value) → Bool → Prop
  | nil : Met A s ys [] true
  | out {x : K × Addr × Value} {r : List (K × Addr × Value)} : atKey ys x.1 = none → Met A s ys (x :: r) false
  | row {x : K × Addr × Value} {p : Addr × Value} {r : List (K × Addr × Value)} {e b : Bool} : atKey ys x.1 = some p → SeqAt.EqAt A s x.2.2 p.2 e → Met A s ys r b → Met A s ys (x :: r) (e && b)
end
section
variable {X : Cx}
end
end Dn

/-! DnNe: == and != by an own __eq__; isinstance with an own class -/
namespace Dn
open PySem PySem.Spec PyProof.Rows L2 Evl
section
variable {prog : Program} {w : World} {A : Around} {E : Value → Shared → Prop} {s : Shared} {K : PySem.W.Frag} {x C f L : Addr} {ox : Obj} {od : Option Obj} {h₀ : Heap} {m : Str → Option Value} {b tb : Value}
theorem check_own {M : Model} {id owner n : String} {rest : List Value} {Q : Unit → Shared → Prop} (hk : builtinKind id = some .slot) (hsp : splitId id = some (owner, n)) (ha : argsOk id ⟨.ref x :: rest, []⟩)
    (I : PySem.W.InstAt s.heap x ox C od) (X : K.In s.heap) (hob : PySem.W.subIn K (.ref C) (.type owner) = some true) (hq : Q () s) : wpAny M A (checkBuiltinCall id ⟨.ref x :: rest, []⟩) Q E s := by
  have is1 : PySem.W.Looks M s.heap (isInstance (.ref x) (.type owner)) true := by
    unfold isInstance
    exact I.type.andThen (PySem.W.looks_subIn X hob)
  simp only [checkBuiltinCall, hk, hsp]
  refine wpAny_bind (is1.here ?_)
  simp only [Bool.not_true, Bool.false_eq_true, if_false]
  cases hsig : Manifest.signature? id with
  | none => exact wpAny_pure hq
  | some sig =>
    simp only [argsOk, hsig] at ha
    have h2 : Bind.checkArgs id sig ⟨.ref x :: rest, []⟩ = pure () := ha
    show wpAny M A (Bind.checkArgs id sig ⟨.ref x :: rest, []⟩) Q E _
    rw [h2]
    exact wpAny_pure hq
/-- != by object.__ne__, which asks the own == -/
theorem ne_own {Q : Value → Shared → Prop} (hu : A.units + 1 < cLine) (Fr0 : Fr h₀ L s.heap m) (X₀ : K.In h₀) (I : PySem.W.InstAt s.heap x ox C od) (hb : PySem.W.Looks (model prog w) s.heap (typeOf b) tb) (hn : PySem.W.notFirst K C tb = true)
    (hne : PySem.W.findIn K (.ref C) "__ne__" = some (some (.builtin "object.__ne__"))) (hob : PySem.W.subIn K (.ref C) (.type "object") = some true)
    (hs : PySem.W.findIn K (.ref C) "__eq__" = some (some (.ref f))) (hf : PySem.W.isFn K (.ref f) = true)
    (h : wpAny (model prog w) A.in1 (call (.ref f) [.ref x, b]) (fun v s' => ∃ r, v = .bool r ∧ Q (.bool (!r)) s') E s) : wpAny (model prog w) A (compareOp .NotEq (.ref x) b) Q E s := by
  have X := X₀.keeps Fr0.keep
  have body : wpAny (model prog w) A.in1 (Builtin.«object.__ne__» ⟨[.ref x, b], []⟩) (fun fin s' => ∃ v, fin = .done (.ret v) ∧ ∃ r, v = .bool (!r) ∧ Q (.bool (!r)) s') E s := by
    unfold Builtin.«object.__ne__»
    refine wpAny_bind (m := slotArgs "__ne__" 1 _) (wpAny_pure ?_)
    dsimp only
    refine wpAny_bind (wpAny_cRoomFor hu ?_)
    refine wpAny_bind (m := callSpecialIfBound? (.ref x) (Str.ofString "__eq__") [b]) (PySem.W.ifBound_K X I hs hf (wpAny_mono h (fun v s' hv => ?_) fun _ _ e => e))
    obtain ⟨r, rfl, hq⟩ := hv
    exact wpAny_bind (wpAny_truthy_bool (wpAny_pure ⟨_, rfl, r, rfl, hq⟩))
  have asked : wpAny (model prog w) A (call (.builtin "object.__ne__") [.ref x, b]) (fun v s' => ∃ r, v = .bool (!r) ∧ Q (.bool (!r)) s') E s := by
    refine wpAny_call (codeAny_call_builtin F.slot_object_ne.plain F.cmpEntry_ne (check_own F.cmpKind_ne F.cmpSplit_ne (F.cmpArgs_ne _ _) I X hob ?_))
    refine wpAny_mono body (fun fin s' hv => ?_) fun _ _ e => e
    obtain ⟨v, rfl, q⟩ := hv
    exact q
  have one : wpAny (model prog w) A (tryCompare (.ref x) "__ne__" b) (fun r s' => ∃ v, r = some v ∧ Q v s') E s := by
    simp only [tryCompare, callSpecialIfBound?, bindSpecialIfBound?]
    refine wpAny_bind (wpAny_holding (wpAny_bind (wpAny_bind (wpAny_bind (I.type.here ((PySem.W.looks_findIn X hne).here ?_))))))
    refine wpAny_bind (wpAny_askSetting (wpAny_ite ?_))
    have fin : wpAny (model prog w) A (call (.builtin "object.__ne__") ([.ref x] ++ [b]) >>= fun v => pure (some v)) (fun r s' => ∃ v t, r = some (.bool t) ∧ v = Value.bool t ∧ Q v s') E s :=
      wpAny_bind (wpAny_mono asked (fun v s' h' => by obtain ⟨r, rfl, q⟩ := h'; exact wpAny_pure ⟨_, _, rfl, rfl, q⟩) fun _ _ e => e)
    simp only [F.slot_object_ne.bind]
    have back : wpAny (model prog w) A (call (.builtin "object.__ne__") ([.ref x] ++ [b]) >>= fun v => pure (some v)) (fun a s₁ => wpAny (model prog w) A (match a with | some Value.notImplemented => pure none | none => pure none | some r => pure (some r)) (fun r s' => ∃ v, r = some v ∧ Q v s') E s₁) E s :=
      wpAny_mono fin (fun r s' h' => by obtain ⟨v, t, rfl, rfl, q⟩ := h'; exact wpAny_pure ⟨_, rfl, q⟩) fun _ _ e => e
    split
    · exact wpAny_bind (wpAny_pure (wpAny_pure back))
    · exact wpAny_tryCatch (wpAny_bind (wpAny_pure (wpAny_pure back)))
  unfold compareOp
  unfold richCompare
  simp only [oneThing_ref]
  refine wpAny_holding (wpAny_bind (wpAny_cRoomFor (Nat.lt_of_succ_lt hu) ?_))
  refine wpAny_bind (I.type.here (wpAny_bind (hb.here ?_)))
  split
  · rename_i q
    have e : PySem.W.subIn K tb (.ref C) = some false := by
      rcases Bool.or_eq_true_iff.mp hn with e | e
      · rw [beq_iff_eq.mp e] at q; simp at q
      · exact beq_iff_eq.mp e
    refine wpAny_bind ((PySem.W.looks_subIn X e).here ?_)
    simp only [Bool.false_eq_true, if_false]
    refine wpAny_bind (wpAny_mono one (fun r s' z => ?_) fun _ _ e => e)
    obtain ⟨v, rfl, hq⟩ := z
    exact wpAny_pure hq
  · refine wpAny_bind (wpAny_pure ?_)
    simp only [Bool.false_eq_true, if_false]
    refine wpAny_bind (wpAny_mono one (fun r s' z => ?_) fun _ _ e => e)
    obtain ⟨v, rfl, hq⟩ := z
    exact wpAny_pure hq
end
section
variable {X : Cx}
variable {W : WX} {e1 e2 : Expr} {f g : XE} {pos : Pos}
def notIf (neg : Bool) : D → Mem → R D := fun r M => match r with
  | .bl b => .ok (.bl (if neg then !b else b)) M
  | _ => .no
/-- the class x has object's != -/
def NeD (K : PySem.W.Frag) (x : Str) : Prop := ∃ C, PySem.W.nsIn K mainGlobals x = some (some (.ref C)) ∧ PySem.W.findIn K (.ref C) "__ne__" = some (some (.builtin "object.__ne__")) ∧ PySem.W.subIn K (.ref C) (.type "object") = some true
/-! ### isinstance(e, C) -/
/-- what isinstance looks at in the class x -/
def IsC (K : PySem.W.Frag) (mg : Str → Option Value) (x : Str) : Prop := ∃ C, PySem.W.nsIn K mainGlobals x = some (some (.ref C)) ∧ mg x = some (.ref C) ∧ Cls K C ∧ PySem.W.findIn K (.ref C) "__class__" = some (some (.builtin "object.__class__")) ∧ PySem.W.specialIn K (.builtin "object.__class__") "__get__" = some (some (.builtin "getset_descriptor.__get__")) ∧
  PySem.W.takesIn K (.builtin "object.__class__") = some true ∧ PySem.W.mroIn K C (.type "object") = some true ∧ ∀ n ∈ ["NoneType", "bool", "int", "str", "list", "tuple", "dict"], PySem.W.kitOne K (.type n) (.ref C) = some false
theorem de_cls {x : Str} (G : IsC X.K X.mg x) (hg : Gl X x) (hd : (x == ("__debug__" : Str)) = false := by decide) : DE X W (.Name x pos) (xC (.fn x)) := by
  obtain ⟨C, hC, hm, _⟩ := G
  exact sE (pe_glob (v := .ref C) hg hm rfl hd) fun σ H Q η F B ρ M e m w => w.ret m _ (.fn hC)
def xIsO (x : Str) (fa : XA) : XE := fun η M => (fa η M).bind fun ds M1 => match ds with
  | [d, .fn y] => if y = x then match asIns M1 d with
    | some (z, _) => if z = x then .ok (.bl true) M1 else .no
    | none => match tyN M1 d with
      | some t => if t ∈ ["NoneType", "bool", "int", "str", "list", "tuple", "dict"] then .ok (.bl false) M1 else .no
      | none => .no
    else .no
  | _ => .no
theorem de_isO {x : Str} {es : List Expr} {fa : XA} {p : Pos} (G : IsC X.K X.mg x) (hg : Gl X "isinstance") (hm : X.mg "isinstance" = none) (ha : DA X W (e1 :: es) fa) (hs : starEach (e1 :: es) X.env = (false, eval e1 X.env) :: starEach es X.env := by rfl) (hp : (backTo pos (starEach es X.env)).any (·.1) = false := by rfl) :
    DE X W (.Call (.Name "isinstance" p) (e1 :: es) [] pos) (xIsO x fa) := by
  obtain ⟨C, hC, _, cl, h1, h2, h3, h4, h5⟩ := G
  refine PE.imp (pe_callB call_isi hg hm bt_isinstance ha (by decide) (by decide) hs hp) fun σ H Q z => ?_
  obtain ⟨η, F, B, ρ, M, er, m, w⟩ := z
  refine ⟨η, F, B, ρ, M, er, m, w.bind fun ds M1 B1 ρ1 H1 l1 m1 w1 vs rv => ?_⟩
  split at w1
  · next d y =>
    split at w1
    · next hy =>
      subst hy
      cases rv with
      | cons r rr =>
        cases rr with
        | cons r' rr =>
          cases rr
          cases r' with
          | @fn a _ hc =>
            rw [hC] at hc
            cases hc
            split at w1
            · next z0 fs hi =>
              split at w1
              · next hz =>
                subst hz
                obtain ⟨b, C1, dx, gs, rfl, hc1, hH, _⟩ := asIns_snd m1 r hi
                rw [hC] at hc1
                cases hc1
                exact ⟨_, _, .ref C, .ref C, true, rfl, .own C, .base (.ins hH cl h1 h2 h3 h4), by simp [PySem.W.kitOne], Wp.ret w1 m1 _ (.bl _)⟩
              · exact w1.elim
            · split at w1
              · next t ht =>
                split at w1
                · next hmem => exact ⟨_, _, .type t, .ref C, false, rfl, .own C, tyN_snd m1 r ht, h5 t hmem, Wp.ret w1 m1 _ (.bl _)⟩
                · exact w1.elim
              · exact w1.elim
    · exact w1.elim
  · exact w1.elim
end
end Dn

/-! DnWhile: while; name op= e; o[i] op= e at a list's item -/
namespace Dn
open PySem PySem.Spec PyProof.Rows L2 Evl
section
variable {X : Cx} {W : WX} {c e o ti : Expr} {t : XT} {f g k : XE} {pos pos' : Pos}
end
end Dn

/-! DnEnum: enumerate of a tuple or a list; zip of three tuples -/
namespace Dn
open PySem PySem.Spec PyProof.Rows L2 Evl
section
variable {X : Cx} {W : WX} {e : Expr} {fa : XA}
end
end Dn

/-! DnStar: first, *rest = a list or a tuple -/
namespace Dn
open PySem PySem.Spec PyProof.Rows L2 Evl
section
variable {prog : Program} {w : World} {A : Around} {E : Value → Shared → Prop} {s : Shared} {I : Addr} {fp wr : List Addr} {G : Array GenState → Array GenState → Prop} {n : Nat} {P : Nat → Value → Prop} {St : Nat → Shared → Prop}
end
section
variable {prog : Program} {w : World} {A : Around} {E : Value → Shared → Prop} {s : Shared}
end
section
variable {X : Cx} {W : WX} {t1 t2 : Expr} {pos p2 : Pos} {kk : Nat}
end
end Dn

/-! DnLc2: a comprehension with two generators -/
namespace Dn
open PySem PySem.Spec PyProof.Rows L2 Evl
section
variable {X : Cx} {W : WX} {tg it tg1 it1 elt : Expr} {pos : Pos} {f : XE}
end
end Dn

/-! DnSeat: dicts by ints and texts that change, list * int, min of a list, extend; zip of three tuples -/
namespace Dn
open PySem PySem.Spec PyProof.Rows L2 Evl
section
variable {X : Cx} {W : WX} {o i e value a b : Expr} {pos pos' apos : Pos} {f g h : XE}
end
/-! ### zip of three tuples of one length -/
end Dn

/-! a tuple times 0 or 1 -/
namespace Dn
open PySem PySem.Spec PyProof.Rows L2
section
variable {X : Cx}
end
end Dn

/-! DnKeys: is of truths; list(d) of a dict with tuple keys -/
namespace Dn
open PySem PySem.Spec PyProof.Rows L2 Evl
section
variable {X : Cx}
end
/-! a def called with fewer values than it has parameters: what stands behind = -/
structure FnDf (P : Program) (w : World) (K : PySem.W.Frag) (mg : Str → Option Value) (base : Heap) (k : Nat) (x : Str) (n : Nat) (dfl : List D) (f : Fn) : Prop where
  ex : ∃ (a : Addr) (fd : FuncData) (ps : List Str) (ds : List Value) (dvs : List V), FnOk P w K mg base CX0 k a fd ps (spF K mg (n + dfl.length) f) ∧ mg x = some (.ref a) ∧ PySem.W.keepIn K (.ref a) = true ∧ Binds K fd ps ds ∧ Vals dvs ds ∧ ∀ B ρ, Rps K B ρ dfl dvs
end Dn

/-! DnRec: nothing promised; a, b, c = x, y, z -/
namespace Dn
open PySem PySem.Spec PyProof.Rows L2 Evl
section
variable {X : Cx} {W : WX} {a b c : Expr} {f g h : XE} {pos : Pos}
end
end Dn

/-! DnExc: defs that may raise; raise of an own class over ValueError; try: e / except C as n -/
namespace Dn
open PySem PySem.Spec PyProof.Rows L2 Evl
/-- the promise of a def that may raise -/
def spX (K : PySem.W.Frag) (mg : Str → Option Value) (n : Nat) (f : Fn) : Sp := fun vs H Q E => ∃ (ds : List D) (F B : Hp) (ρ : List Addr) (M : Mem), ds.length = n ∧ Rps K B ρ ds vs ∧ MR K F B ρ M H ∧ Wp K mg F B ρ E (fun d B' ρ' H' => ∀ v, Rp K B' ρ' d v → Q v H') (f ds M)
structure FnDX (P : Program) (w : World) (K : PySem.W.Frag) (mg : Str → Option Value) (base : Heap) (k : Nat) (x : Str) (n : Nat) (f : Fn) : Prop where
  ex : ∃ (a : Addr) (fd : FuncData) (ps : List Str), FnOk P w K mg base (L2.CX P w) k a fd ps (spX K mg n f) ∧ mg x = some (.ref a) ∧ PySem.W.keepIn K (.ref a) = true ∧ Binds K fd ps []
section
variable {X : Cx} {W : WX} {e : Expr} {es : List Expr} {fa : XA} {g : XE} {pos : Pos}
/-- what an own class's __init__ does: a field, and its name -/
def spI (K : PySem.W.Frag) (C : Addr) (f nm : Str) : Sp := fun vs H Q _ => ∃ (a : Addr) (y : V), vs = [.ref a, y] ∧ H a = some (exo a C none) ∧ ∀ dx, H dx = none → dx ≠ a → Q .non (upd (upd (upd H dx (exd dx [(f, y)])) a (exo a C (some dx))) dx (exd dx [("called", .str nm), (f, y)]))
structure XcD (P : Program) (w : World) (K : PySem.W.Frag) (mg : Str → Option Value) (base : Heap) (k : Nat) (x f : Str) : Prop where
  ex : ∃ (C fI : Addr) (fd : FuncData) (ps : List Str), mg x = some (.ref C) ∧ OexC K C ∧ PySem.W.findIn K (.ref C) "__init__" = some (some (.ref fI)) ∧ PySem.W.typeIn K (.ref fI) = some (.type "function") ∧ FnOk P w K mg base CX0 k fI fd ps (spI K C f x) ∧ Binds K fd ps []
end
end Dn

/-! DnExc2: isinstance of a caught error with fields -/
namespace Dn
open PySem PySem.Spec PySem.Calls PySem.W PyProof.Rows
section
variable {prog : Program} {w : World} {A : Around} {E : Value → Shared → Prop} {s : Shared} {K : Frag} {x D : Addr} {ox : Obj} {od : Option Obj}
end
end Dn
namespace Dn
open PySem PySem.Spec PyProof.Rows L2 Evl
section
variable {X : Cx} {a C dd : Addr} {oe : Obj} {pn : List (Addr × Obj)}
end
end Dn

/-! DnExc3: the __init__ of an own class over ValueError; try .. except X as e, refused at a number -/
namespace Dn
open PySem PySem.Spec PyProof.Rows L2 Evl
/-- what must stand of a class that is caught, with six others that it is none of -/
structure XsD (K : PySem.W.Frag) (mg : Str → Option Value) (x f : Str) (ns : List Str) : Prop where
  ex : ∃ (C : Addr) (Cs : List Addr), mg x = some (.ref C) ∧ Paired (fun n c => mg n = some (.ref c)) ns Cs ∧ ExcC K C ∧ XfC K C ∧ PySem.W.findIn K (.ref C) f = some none ∧ PySem.W.exmOne K (.ref C) (.ref C) = some true ∧ PySem.W.kitAny K (.ref C) (Cs.map Value.ref) = some false ∧ PySem.W.kitOne K (.ref C) (.type "ValueError") = some true
section
variable {X : Cx} {W : WX} {cl : Expr} {g : XE}
end
end Dn

/-! DnDcK: dicts by texts or ints made by a comprehension (printed by mkdck.py) -/
namespace Dn
open PySem PyProof.Rows L2 Evl PySem.Spec
section
variable {X : Cx} {W : WX}
end
end Dn


/-! DnBook: lists unpacked, dict(pairs) by texts, d[k] op= e, dicts of the module, defs held by a name -/
namespace Dn
open PySem PySem.Spec PyProof.Rows L2 Evl
section
variable {X : Cx} {W : WX} {o ti e : Expr} {es : List Expr} {f g k : XE} {pos tpos : Pos}
/-- a, b, .. = a list -/
def xgLst (n : Nat) (gs : List D → Dv → Mem → R Dv) : XG := fun d η M => match asL M d with
  | some ds => if ds.length = n then gs ds η M else .no
  | none => .no
theorem dg_lst {kk : Nat} {ts : List Nat} {n : Nat} {gs : List D → Dv → Mem → R Dv} (hc : X.calm = true) (h : DGs X W es ts gs) (hn : (assignEach es X.env).length = n := by rfl) (hst : (assignEach es X.env).findIdx? (·.1) = none := by rfl) :
    DG X W (.Tuple es kk pos) ts (xgLst n gs) := PG.imp (pg_lst hc h hn hst) fun v σ H Q z => by
  obtain ⟨d, η, F, B, ρ, M, r, er, m, w⟩ := z
  unfold xgLst at w
  split at w
  · next ds hd =>
    split at w
    · next hl =>
      obtain ⟨a, vs, rfl, hs, rs⟩ := asL_snd m r hd
      exact ⟨a, vs, rfl, hs, by rw [← rs.len]; exact hl, ds, η, F, B, ρ, M, rs, er, m, w⟩
    · exact w.elim
  · exact w.elim
/-! dict(pairs), the keys texts or ints -/
/-! d[k] op= e -/
end
end Dn

/-! DnBook2: dicts of the module with text keys; a def that a name holds; keywords of a def with defaults -/
namespace Dn
open PySem PySem.Spec PyProof.Rows L2 Evl
/-- a dict of the module: what is asked of it -/
structure KtD (K : PySem.W.Frag) (w : World) (mg : Str → Option Value) (x : Str) (tin : List (Str × Bool)) (tget : List (Str × D)) : Prop where
  ex : ∃ (d : Addr) (es : Array DictEntry) (n : Nat), mg x = some (.ref d) ∧ PySem.W.nsIn K mainGlobals x = some (some (.ref d)) ∧ KDict K w d es n ∧ (∀ s b, tin.lookup s = some b → ∃ r, PySem.W.nsIn K d s = some r ∧ r.isSome = b) ∧
    ∀ s c, tget.lookup s = some c → ∃ u v, PySem.W.nsIn K d s = some (some u) ∧ RelV v u ∧ ∀ B ρ, Rp K B ρ c v
section
variable {X : Cx} {W : WX} {a b e : Expr} {es : List Expr} {f g : XE} {fa : XA} {pos : Pos} {x : Str} {tin : List (Str × Bool)} {tget : List (Str × D)}
/-! a def that a name holds -/
structure FnG (P : Program) (w : World) (K : PySem.W.Frag) (mg : Str → Option Value) (base : Heap) (k : Nat) (y : Str) (n : Nat) (f : Fn) : Prop where
  ex : ∃ (ad : Addr) (fd : FuncData) (ps : List Str), FnOk P w K mg base CX0 k ad fd ps (spF K mg n f) ∧ PySem.W.nsIn K mainGlobals y = some (some (.ref ad)) ∧ PySem.W.keepIn K (.ref ad) = true ∧ Binds K fd ps []
end
end Dn

/-! DnBook3: name = [.. for .. in a list that may change]; a def that may raise, called where it does not -/
namespace Dn
open PySem PySem.Spec PyProof.Rows L2 Evl
section
variable {X : Cx} {W : WX} {tg it e : Expr} {es : List Expr} {f : XE} {fa : XA} {pos : Pos}
end
theorem FnG.up {P : Program} {w : World} {K : PySem.W.Frag} {mg : Str → Option Value} {base : Heap} {j k : Nat} {y : Str} {n : Nat} {f : Fn} (G : FnG P w K mg base j y n f) (h : j ≤ k) : FnG P w K mg base k y n f := by
  obtain ⟨ad, fd, ps, F, h1, h2, h3⟩ := G.ex
  exact ⟨ad, fd, ps, F.mono h, h1, h2, h3⟩
end Dn

/-! DnSet: sets of unlike texts; sorted(set(xs)), len(set(xs)) -/
namespace Dn
open PySem PySem.Spec PyProof.Rows L2 Evl PySem.Froz
/-- the set of texts at a: its texts, its table rises and can be gone through -/
structure TxS (P : Program) (w : World) (h : Heap) (a : Addr) (l : List Str) : Prop where
  ex : ∃ D : SD, h.get? a = some (sObj "set" D) ∧ TxOk P w D l ∧ L2.Ris D.2.2.place.toList ∧ (w.params.followText "set-order" = true ∨ D.2.2.led = true)
theorem TxS.at {P : Program} {w : World} {h h' : Heap} {a : Addr} {l : List Str} (T : TxS P w h a l) (k : ∀ o, h.get? a = some o → h'.get? a = some o) : TxS P w h' a l :=
  let ⟨D, h1, r⟩ := T.ex
  ⟨D, k _ h1, r⟩
section
variable {P : Program} {w : World} {A : Around} {E : Value → Shared → Prop} {s : Shared} {a : Addr} {l : List Str}
end
end Dn

/-! DnSet2: sorted(set(xs)) of unlike texts -/
namespace Dn
open PySem PySem.Spec PyProof.Rows L2 Evl PySem.Froz
section
variable {P : Program} {w : World} {A : Around} {E : Value → Shared → Prop} {s : Shared} {a : Addr} {l : List Str}
end
section
variable {X : Cx}
end
section
variable {X : Cx} {W : WX} {e : Expr} {fa : XA} {pos pos2 : Pos}
end
end Dn

/-! DnUpd: displays of dicts, d.pop(k), d.update(d2) -/
namespace Dn
open PySem PySem.Spec PyProof.Rows L2 Evl
/-! ### {k: v, ..} -/
section
variable {X : Cx} {W : WX} {pos : Pos}
end
end Dn

/-! DnUpd2: d.pop(k), d.update(d2) -/
namespace Dn
open PySem PySem.Spec PyProof.Rows L2 Evl
section
variable {X : Cx} {W : WX} {o e : Expr} {f g : XE} {apos cpos : Pos}
end
/-! ### d.update(d2) -/
section
variable {X : Cx} {pins : List (Addr × Obj)} {σ : L2.St} {H : Hp} {s : Shared} {a b : Addr} {A : Around} {E : Value → Shared → Prop}
end
section
variable {X : Cx} {o e : Expr} {apos cpos : Pos} {td ty : TE}
end
section
variable {X : Cx} {W : WX} {o e : Expr} {f g : XE} {apos cpos : Pos}
end
end Dn

/-! DnLet: try: f(..) / except C: return a truth; o.f += e -/
namespace Dn
open PySem PySem.Spec PyProof.Rows L2 Evl
structure XoD (K : PySem.W.Frag) (mg : Str → Option Value) (x : Str) : Prop where
  ex : ∃ C : Addr, mg x = some (.ref C) ∧ PySem.W.exmOne K (.ref C) (.ref C) = some true
section
variable {X : Cx} {W : WX} {cl : Expr} {g : XE}
end
end Dn

/-! DnVal: list(d.values()), max of a list, xs.count(text), o.f += e -/
namespace Dn
open PySem PySem.Spec PyProof.Rows L2 Evl
section
variable {X : Cx} {W : WX} {o e : Expr} {es : List Expr} {f g : XE} {fa : XA} {apos cpos pos tpos : Pos}
/-! max of a list of ints -/
/-! xs.count(s), texts -/
/-! list(d.values()) -/
end
end Dn

/-! DnVal2: list(d.values()), o.f += e, len(set(xs)) -/
namespace Dn
open PySem PySem.Spec PyProof.Rows L2 Evl
section
variable {X : Cx} {W : WX} {o e : Expr} {es : List Expr} {f g : XE} {fa : XA} {apos cpos pos tpos : Pos}
end
section
variable {X : Cx} {W : WX} {o value : Expr} {f g : XE} {pos tpos : Pos} {x fl : Str} {fls : List Str}
end
section
variable {X : Cx} {W : WX} {e : Expr} {fa : XA} {pos pos2 : Pos}
end
end Dn

/-! DnIfs: a comprehension with two tests -/
namespace Dn
open PySem PySem.Spec PyProof.Rows L2 Evl
section
variable {X : Cx} {W : WX} {a b : Expr} {p q : XT}
end
end Dn
namespace Dn
open PySem PySem.Spec PyProof.Rows L2 Evl
/-- a def called with some of its keyword-only parameters written (the last ones), those ahead of them left out -/
structure FnKM (P : Program) (w : World) (K : PySem.W.Frag) (mg : Str → Option Value) (base : Heap) (k : Nat) (x : Str) (n : Nat) (ks : List Str) (dfl : List D) (f : Fn) : Prop where
  ex : ∃ (a : Addr) (fd : FuncData) (ps : List Str) (g : List Value → List Value → List Value) (gV : List V → List V → List V), FnOk P w K mg base CX0 k a fd ps (spF K mg (n + dfl.length + ks.length) f) ∧ mg x = some (.ref a) ∧ PySem.W.keepIn K (.ref a) = true ∧ KBn K fd ps n ks g gV ∧
    ∀ (B : Hp) (ρ : List Addr) (ds es : List D) (vs us : List V), Rps K B ρ ds vs → Rps K B ρ es us → Rps K B ρ (ds ++ dfl ++ es) (gV vs us)
section
variable {X : Cx} {W : WX} {e : Expr} {es : List Expr} {fa fk : XA} {pos : Pos}
end
end Dn

/-! DnVals: for v in d.values() (a frozen dict), list(d) by texts, max of a tuple -/
namespace Dn
open PySem PySem.Spec PyProof.Rows L2 Evl
section
variable {X : Cx} {W : WX} {e tg : Expr} {f : XE} {apos cpos : Pos}
end
section
variable {X : Cx}
end
section
variable {prog : Program} {w : World} {A : Around} {E : Value → Shared → Prop} {s : Shared} {t : Addr}
end
section
variable {X : Cx}
end
end Dn

namespace Dn
open PySem PyProof.Rows L2 Evl
/-! ### how the plain functions reckon -/
section
variable {M : Mem} {i j : Int} {s t : Str} {xs ys ds : List D} {n : Nat} {η : Dv} {d e : D}
theorem ix_nat {α : Type} {l : List α} {k : Nat} : atI l (k : Int) = l[k]? := by
  unfold atI ixN
  by_cases h : k < l.length
  · rw [if_pos (by omega), if_pos (by omega)]
    simp
  · rw [if_pos (by omega), if_neg (by omega)]
    simp at h
    simp [h]
theorem ix_0 {α : Type} {l : List α} : atI l (0 : Int) = l[0]? := ix_nat (k := 0)
theorem ix_1 {α : Type} {l : List α} : atI l (1 : Int) = l[1]? := ix_nat (k := 1)
theorem ix_2 {α : Type} {l : List α} : atI l (2 : Int) = l[2]? := ix_nat (k := 2)
theorem ix_3 {α : Type} {l : List α} : atI l (3 : Int) = l[3]? := ix_nat (k := 3)
theorem ix_4 {α : Type} {l : List α} : atI l (4 : Int) = l[4]? := ix_nat (k := 4)
theorem ix_in {α : Type} {l : List α} {i : Int} (h0 : 0 ≤ i) (h1 : i < l.length) : ∃ a, atI l i = some a ∧ a ∈ l := by
  obtain ⟨k, rfl⟩ := Int.eq_ofNat_of_zero_le h0
  rw [ix_nat]
  have hk : k < l.length := by omega
  exact ⟨l[k], List.getElem?_eq_getElem hk, List.getElem_mem hk⟩
theorem add_ii : dAdd M (.int i) (.int j) = some (.int (i + j)) := rfl
theorem add_ss (h : s.length + t.length ≤ sizeLine) : dAdd M (.str s) (.str t) = some (.str (s ++ t)) := by
  simp [dAdd, oOr, oI0, asI, sAdd, oS2, asS, h]
theorem add_tt (h : xs.length + ys.length ≤ sizeLine) : dAdd M (.tup xs) (.tup ys) = some (.tup (xs ++ ys)) := by
  simp [dAdd, oOr, oI0, asI, sAdd, oS2, asS, tAdd', asT, h]
theorem add_ll (h : xs.length + ys.length ≤ sizeLine) : dAdd M (.lst xs) (.lst ys) = some (.lst (xs ++ ys)) := by
  simp [dAdd, oOr, oI0, asI, sAdd, oS2, asS, tAdd', asT, lAdd, asP, h]
theorem sub_ii : dSub M (.int i) (.int j) = some (.int (i - j)) := rfl
theorem mul_l (h0 : -(2 ^ 64) < i) (h1 : i < 2 ^ 64) : dMul M (.int i) (.int j) = some (.int (i * j)) := by
  have : CMul i j := .inl ⟨h0, h1⟩
  simp [dMul, oI, asI, this]
theorem mul_r (h0 : -(2 ^ 64) < j) (h1 : j < 2 ^ 64) : dMul M (.int i) (.int j) = some (.int (i * j)) := by
  have : CMul i j := .inr ⟨h0, h1⟩
  simp [dMul, oI, asI, this]
theorem mod_ii (h : 0 < j) : dMod M (.int i) (.int j) = some (.int (i % j)) := by simp [dMod, oI, asI, h]
theorem div_ii (h : 0 < j) (h1 : j < 1073741824) : dDiv M (.int i) (.int j) = some (.int (i / j)) := by
  have : CDiv i j := ⟨h, h1⟩
  simp [dDiv, oI, asI, this]
theorem pow_ii (h : CPw i j) : dPow M (.int i) (.int j) = some (.int (i ^ j.toNat)) := by simp [dPow, oI, asI, h]
theorem lt_ii : dLt M (.int i) (.int j) = some (.bl (decide (i < j))) := rfl
theorem le_ii : dLe M (.int i) (.int j) = some (.bl (decide (i ≤ j))) := rfl
theorem gt_ii : dGt M (.int i) (.int j) = some (.bl (decide (j < i))) := rfl
theorem ge_ii : dGe M (.int i) (.int j) = some (.bl (decide (j ≤ i))) := rfl
theorem ix_l : dIx M (.lst xs) (.int i) = atI xs i := by
  simp only [dIx, oOr, lIx, tIx, sIx, asL, asI, asT, asS, Option.bind_some, Option.bind_none]
  split <;> simp_all
theorem ix_t : dIx M (.tup xs) (.int i) = atI xs i := by
  simp only [dIx, oOr, lIx, tIx, sIx, asL, asI, asT, asS, Option.bind_some, Option.bind_none]
  split <;> simp_all
theorem ix_p (h : M[n]? = some (.lst xs)) : dIx M (.ptr n) (.int i) = atI xs i := by
  simp only [dIx, oOr, lIx, tIx, sIx, asL, asI, asT, asS, Option.bind_some, Option.bind_none, h]
  split <;> simp_all
theorem ix_sc {ns : List Int} : dIx M (.scr ns) (.int i) = (atI ns i).map D.int := by
  have : atI (ns.map D.int) i = (atI ns i).map D.int := by
    unfold atI
    rw [List.length_map]
    cases ixN ns.length i with
    | none => rfl
    | some j => simp
  simp only [dIx, oOr, lIx, tIx, sIx, asL, asI, asT, asS, Option.bind_some, Option.bind_none, this]
  cases atI ns i <;> rfl
theorem ix_s (h : s.length ≤ sizeLine) : dIx M (.str s) (.int i) = (atI s.cps.toList i).map fun c => .str ⟨#[c]⟩ := by
  simp [dIx, oOr, lIx, tIx, sIx, asL, asI, asT, asS, h]
theorem sl_s {lo hi : Option Int} (h : s.length ≤ sizeLine) : dSl M (.str s) lo hi = some (.str (cutS s lo hi)) := by
  simp [dSl, sOr, lSl, tSl', sSl, asL, asT, asS, h]
theorem sl_l {lo hi : Option Int} : dSl M (.lst xs) lo hi = some (.lst (cutD xs lo hi)) := by
  simp [dSl, sOr, lSl, tSl', sSl, asL, asT, asS]
theorem len_sc {ns : List Int} : lenD M (.scr ns) = some ns.length := by simp [lenD, asL]
theorem rev_l : revD M (.lst xs) = some (.lst xs.reverse) := rfl
theorem tru_b {b : Bool} : truD M (.bl b) = some b := rfl
theorem blen_l : bLen M [.lst xs] = some (.int xs.length) := rfl
theorem blen_t : bLen M [.tup xs] = some (.int xs.length) := rfl
theorem blen_sc {ns : List Int} : bLen M [.scr ns] = some (.int ns.length) := by simp [bLen, one, len_sc]
theorem babs : bAbs M [.int i] = some (.int (if i < 0 then -i else i)) := rfl
theorem bint_b {b : Bool} : bInt M [.bl b] = some (.int (if b then 1 else 0)) := rfl
theorem bmax : bMax M [.int i, .int j] = some (.int (if j > i then j else i)) := rfl
theorem bmin : bMin M [.int i, .int j] = some (.int (if j < i then j else i)) := rfl
theorem srt_perm (l : List Str) : (srt l).Perm l := List.mergeSort_perm l leS
theorem bsorted {ss : List Str} (h : ss.length < 64) : bSorted M [.lst (ss.map D.str)] = some (.lst ((srt ss).map D.str)) := by
  have : ∀ ss : List Str, asSs (ss.map D.str) = some ss := by
    intro ss
    induction ss with
    | nil => rfl
    | cons a l ih => simp [asSs, asS, ih]
  simp [bSorted, one, asL, this, h]
theorem small_line {n : Nat} (h : n ≤ 100000) : n ≤ sizeLine := Nat.le_trans h (by decide)
end
theorem asSs_map : ∀ ss : List Str, asSs (ss.map D.str) = some ss
  | [] => rfl
  | a :: l => by simp [asSs, asS, asSs_map l]
/-- it comes to something of which P holds -/
def Gv {α : Type} (r : R α) (P : α → Mem → Prop) : Prop := ∃ a M', r = .ok a M' ∧ P a M'
theorem gv_ok {α : Type} {a : α} {M : Mem} {P : α → Mem → Prop} (h : P a M) : Gv (.ok a M) P := ⟨a, M, rfl, h⟩
theorem gv_bind {α β : Type} {r : R α} {k : α → Mem → R β} {P : β → Mem → Prop} (h : Gv r fun a M => Gv (k a M) P) : Gv (r.bind k) P := by
  obtain ⟨a, M, e, h⟩ := h
  rw [e]
  exact h
theorem Gv.imp {α : Type} {r : R α} {P Q : α → Mem → Prop} (h : Gv r P) (i : ∀ a M, P a M → Q a M) : Gv r Q := let ⟨a, M, e, p⟩ := h; ⟨a, M, e, i a M p⟩
theorem gv_of {α : Type} {o : Option α} {M : Mem} {P : α → Mem → Prop} {a : α} (e : o = some a) (h : P a M) : Gv (R.of o M) P := by
  rw [e]
  exact gv_ok h
/-! one rule a word -/
section
variable {M : Mem} {η : Dv} {P : D → Mem → Prop} {PF : Fl → Mem → Prop} {PA : List D → Mem → Prop} {PB : Bool → Mem → Prop} {f g k : XE} {fa ga : XA} {p q : XT} {s u : XS} {i j : Nat} {d : D}
theorem v_var (h : η[i]? = some (some d)) (hp : P d M) : Gv (xVar i η M) P := by
  unfold xVar
  rw [h]
  exact gv_ok hp
theorem v_c (hp : P d M) : Gv (xC d η M) P := gv_ok hp
theorem v_op {h : Op2} (hp : Gv (f η M) fun x M1 => Gv (g η M1) fun y M2 => ∃ z, h M2 x y = some z ∧ P z M2) : Gv (xOp h f g η M) P :=
  gv_bind (hp.imp fun x M1 h1 => gv_bind (h1.imp fun y M2 ⟨z, e, h2⟩ => gv_of e h2))
theorem v_nil (h : PA [] M) : Gv (xNil η M) PA := gv_ok h
theorem v_cons (h : Gv (f η M) fun x M1 => Gv (fa η M1) fun xs M2 => PA (x :: xs) M2) : Gv (xCons f fa η M) PA :=
  gv_bind (h.imp fun x M1 h1 => gv_bind (h1.imp fun y M2 h2 => gv_ok h2))
theorem v_call {h : OpC} (hp : Gv (fa η M) fun ds M1 => ∃ z, h M1 ds = some z ∧ P z M1) : Gv (xCall h fa η M) P := gv_bind (hp.imp fun ds M1 ⟨z, e, h2⟩ => gv_of e h2)
theorem v_fn {n : Nat} {fn : Fn} (hp : Gv (fa η M) fun ds M1 => ds.length = n ∧ Gv (fn ds M1) P) : Gv (xFn n fn fa η M) P := gv_bind (hp.imp fun ds M1 ⟨e, h2⟩ => by
  rw [if_pos e]
  exact h2)
theorem v_fnK {n kk : Nat} {fn : Fn} {fk : XA} (hp : Gv (fa η M) fun ds M1 => Gv (fk η M1) fun cs M2 => (ds.length = n ∧ cs.length = kk) ∧ Gv (fn (ds ++ cs) M2) P) : Gv (xFnK' n kk fn fa fk η M) P := gv_bind (hp.imp fun ds M1 h1 => gv_bind (h1.imp fun cs M2 ⟨e, h2⟩ => by
  rw [if_pos e]
  exact h2))
theorem v_tup (hp : Gv (fa η M) fun ds M1 => ds.length ≤ 100000 ∧ P (.tup ds) M1) : Gv (xTup fa η M) P := gv_bind (hp.imp fun ds M1 ⟨e, h2⟩ => by
  rw [if_pos e]
  exact gv_ok h2)
theorem v_lst (hp : Gv (fa η M) fun ds M1 => ds.length ≤ 100000 ∧ P (.lst ds) M1) : Gv (xLst fa η M) P := gv_bind (hp.imp fun ds M1 ⟨e, h2⟩ => by
  rw [if_pos e]
  exact gv_ok h2)
theorem v_lstM (hp : Gv (fa η M) fun ds M1 => ds.length ≤ 100000 ∧ P (.ptr M1.length) (M1 ++ [.lst ds])) : Gv (xLstM fa η M) P := gv_bind (hp.imp fun ds M1 ⟨e, h2⟩ => by
  rw [if_pos e]
  exact gv_ok h2)
theorem v_neg (hp : Gv (f η M) fun x M1 => ∃ i, x = .int i ∧ P (.int (-i)) M1) : Gv (xNeg f η M) P := gv_bind (hp.imp fun x M1 ⟨i, e, h2⟩ => by
  subst e
  exact gv_ok h2)
theorem v_rev (hp : Gv (f η M) fun x M1 => ∃ z, revD M1 x = some z ∧ P z M1) : Gv (xRev f η M) P := gv_bind (hp.imp fun x M1 ⟨z, e, h2⟩ => gv_of e h2)
theorem v_none {PO : Option Int → Mem → Prop} (h : PO none M) : Gv (xNone η M) PO := gv_ok h
theorem v_some {PO : Option Int → Mem → Prop} (hp : Gv (f η M) fun x M1 => ∃ i, x = .int i ∧ PO (some i) M1) : Gv (xSome f η M) PO := gv_bind (hp.imp fun x M1 ⟨i, e, h2⟩ => by
  subst e
  exact gv_ok h2)
theorem v_sl {h : OpS} {l r : XO} (hp : Gv (f η M) fun x M1 => Gv (l η M1) fun lo M2 => Gv (r η M2) fun hi M3 => ∃ z, h M3 x lo hi = some z ∧ P z M3) : Gv (xSl h f l r η M) P :=
  gv_bind (hp.imp fun x M1 h1 => gv_bind (h1.imp fun lo M2 h2 => gv_bind (h2.imp fun hi M3 ⟨z, e, h3⟩ => gv_of e h3)))
theorem v_tst (hp : Gv (f η M) fun x M1 => ∃ b, x = .bl b ∧ PB b M1) : Gv (xTst f η M) PB := gv_bind (hp.imp fun x M1 ⟨b, e, h2⟩ => by
  subst e
  exact gv_ok h2)
theorem v_tru (hp : Gv (f η M) fun x M1 => ∃ b, truD M1 x = some b ∧ PB b M1) : Gv (xTru f η M) PB := gv_bind (hp.imp fun x M1 ⟨b, e, h2⟩ => gv_of e h2)
theorem v_and (hp : Gv (p η M) fun b M1 => if b = true then Gv (q η M1) PB else PB false M1) : Gv (xAnd p q η M) PB := gv_bind (hp.imp fun b M1 h => by
  cases b with
  | true => exact h
  | false => exact gv_ok h)
theorem v_or (hp : Gv (p η M) fun b M1 => if b = true then PB true M1 else Gv (q η M1) PB) : Gv (xOr p q η M) PB := gv_bind (hp.imp fun b M1 h => by
  cases b with
  | true => exact gv_ok h
  | false => exact h)
theorem v_not (hp : Gv (p η M) fun b M1 => PB (!b) M1) : Gv (xNot p η M) PB := gv_bind (hp.imp fun b M1 h => gv_ok h)
theorem v_andV (hp : Gv (f η M) fun x M1 => ∃ b, x = .bl b ∧ if b = true then Gv (g η M1) P else P (.bl false) M1) : Gv (xAndV f g η M) P := gv_bind (hp.imp fun x M1 ⟨b, e, h⟩ => by
  subst e
  cases b with
  | true => exact h
  | false => exact gv_ok h)
theorem v_if (hp : Gv (p η M) fun b M1 => if b = true then Gv (f η M1) P else Gv (g η M1) P) : Gv (xIf p f g η M) P := gv_bind (hp.imp fun b M1 h => by
  cases b with
  | true => exact h
  | false => exact h)
theorem v_chain {h h' : Op2} (hp : Gv (f η M) fun x M1 => Gv (g η M1) fun y M2 => ∃ b, h M2 x y = some (.bl b) ∧ if b = true then Gv (k η M2) fun z M3 => ∃ w, h' M3 y z = some w ∧ P w M3 else P (.bl false) M2) : Gv (xChain h h' f g k η M) P :=
  gv_bind (hp.imp fun x M1 h1 => gv_bind (h1.imp fun y M2 ⟨b, e, h2⟩ => by
    rw [e]
    show Gv (if b = true then _ else _) P
    cases b with
    | true => exact gv_bind (Gv.imp h2 fun z M3 ⟨w, e3, h3⟩ => gv_of e3 h3)
    | false => exact gv_ok h2))
theorem v_join (hp : Gv (f η M) fun x M1 => ∃ z, x = .str z ∧ Gv (g η M1) fun y M2 => ∃ ss : List Str, y = .lst (ss.map D.str) ∧ (ss.map fun (q : Str) => q.length).sum + ss.length * z.length ≤ 16777216 ∧ P (.str (Txt.join z ss)) M2) : Gv (xJoin f g η M) P :=
  gv_bind (hp.imp fun x M1 ⟨z, e, h1⟩ => by
    subst e
    refine gv_bind (gv_ok (gv_bind (h1.imp fun y M2 ⟨ss, e2, h2, h3⟩ => ?_)))
    subst e2
    exact gv_of (by simp only [asL, Option.bind_some, asSs_map, if_pos h2]) h3)
theorem v_upper (hp : Gv (f η M) fun x M1 => ∃ z : Str, x = .str z ∧ z.length ≤ 5592405 ∧ P (.str (Txt.upper z)) M1) : Gv (xUpper f η M) P := gv_bind (hp.imp fun x M1 ⟨z, e, h, h2⟩ => by
  subst e
  refine gv_bind (gv_ok ?_)
  rw [if_pos h]
  exact gv_ok h2)
theorem v_dict0 (hp : P (.dct []) M) : Gv (xDict0 η M) P := gv_ok hp
theorem v_dict1 (hp : Gv (f η M) fun x M1 => Gv (g η M1) fun y M2 => ∃ k, keyD x = some k ∧ P (.dct [(k, y)]) M2) : Gv (xDict1 f g η M) P := gv_bind (hp.imp fun x M1 h1 => gv_bind (h1.imp fun y M2 ⟨k, e, h2⟩ => gv_of (by rw [e]; rfl) h2))
/-! statements -/
theorem v_seq (h : Gv (s η M) fun fl M1 => Gv (thenS u fl M1) PF) : Gv (xSeq s u η M) PF := gv_bind h
theorem v_nx (h : PF (.nx η) M) : Gv (xNx η M) PF := gv_ok h
theorem v_thn {η' : Dv} (h : Gv (u η' M) PF) : Gv (thenS u (.nx η') M) PF := h
theorem v_thr (h : PF (.rt d) M) : Gv (thenS u (.rt d) M) PF := gv_ok h
theorem v_asg (h : Gv (f η M) fun d M1 => PF (.nx (η.set i (some d))) M1) : Gv (xAsg f (xgName i) η M) PF := gv_bind (h.imp fun d M1 h1 => gv_bind (gv_ok (gv_ok h1)))
theorem v_ret (h : Gv (f η M) fun d M1 => PF (.rt d) M1) : Gv (xRet f η M) PF := gv_bind (h.imp fun d M1 h1 => gv_ok h1)
theorem v_ifS (h : Gv (p η M) fun b M1 => if b = true then Gv (s η M1) PF else Gv (u η M1) PF) : Gv (xIfS p s u η M) PF := gv_bind (h.imp fun b M1 h => by
  cases b with
  | true => exact h
  | false => exact h)
theorem v_par (h : Gv (f η M) fun d M1 => Gv (g η M1) fun c M2 => PF (.nx ((η.set i (some d)).set j (some c))) M2) : Gv (xPar i j f g η M) PF := gv_bind (h.imp fun d M1 h1 => gv_bind (h1.imp fun c M2 h2 => gv_ok h2))
theorem v_setL (h : Gv (f η M) fun d M1 => Gv (g η M1) fun l M2 => Gv (k η M2) fun z M3 => ∃ n ds j q, l = .ptr n ∧ z = .int j ∧ M3[n]? = some (.lst ds) ∧ ixN ds.length j = some q ∧ PF (.nx η) (M3.set n (.lst (ds.set q d)))) : Gv (xSetL f g k η M) PF :=
  gv_bind (h.imp fun d M1 h1 => gv_bind (h1.imp fun l M2 h2 => gv_bind (h2.imp fun z M3 ⟨n, ds, j, q, e1, e2, e3, e4, h3⟩ => by
    subst e1 e2
    simp only [e3, e4]
    exact gv_ok h3)))
theorem v_for {fi : XI} {gt : XG} {PI : List D → Mem → Prop} (h : Gv (fi η M) fun ds M1 => Gv (xForL gt s ds η M1) PF) : Gv (xFor fi gt s η M) PF := gv_bind h
theorem v_rng (h : Gv (fa η M) fun ds M1 => ∃ n : Nat, ds = [.int (n : Int)] ∧ n < 2 ^ 62 ∧ PA ((List.range n).map fun i => .int (i : Nat)) M1) : Gv (xRng fa η M) PA := gv_bind (h.imp fun ds M1 ⟨n, e, hn, h1⟩ => by
  subst e
  show Gv (if _ then _ else _) PA
  rw [if_pos ⟨by omega, by omega⟩]
  exact gv_ok (by simpa using h1))
theorem v_sq (h : Gv (f η M) fun x M1 => ∃ ds, itemsD x = some ds ∧ PA ds M1) : Gv (xSq f η M) PA := gv_bind (h.imp fun x M1 ⟨ds, e, h1⟩ => gv_of e h1)
/-- a for by a word about what is left, the slots and the memory -/
theorem v_forL {gt : XG} (I : List D → Dv → Mem → Prop) (ds : List D) (h0 : I ds η M) (hs : ∀ d r η M, I (d :: r) η M → Gv (gt d η M) fun η1 M1 => Gv (s η1 M1) fun fl M2 => match fl with
    | .nx η2 => I r η2 M2
    | .ct η2 => I r η2 M2
    | .bk η2 => PF (.nx η2) M2
    | .rt v => PF (.rt v) M2) (hd : ∀ η M, I [] η M → PF (.nx η) M) : Gv (xForL gt s ds η M) PF := by
  induction ds generalizing η M with
  | nil => exact gv_ok (hd _ _ h0)
  | cons d r ih =>
    refine gv_bind ((hs d r η M h0).imp fun η1 M1 h1 => gv_bind (Gv.imp h1 fun fl M2 h2 => ?_))
    cases fl with
    | nx η2 => exact ih h2
    | ct η2 => exact ih h2
    | bk η2 => exact gv_ok h2
    | rt v => exact gv_ok h2
theorem calm_gv {α : Type} {r : R α} {P : α → Mem → Prop} (h : Gv r P) : Gv r.calm P := by
  obtain ⟨a, M, e, h⟩ := h
  rw [e]
  exact gv_ok h
/-- a comprehension by a word about what is left, what is made, the memory -/
theorem v_lcL {gt : XG} {t : XT} (I : List D → List D → Mem → Prop) (ds : List D) (hs : ∀ d r acc M, I (d :: r) acc M → Gv (gt d η M) fun η1 M1 => Gv (t η1 M1) fun b M2 => if b = true then Gv (f η1 M2) fun y M3 => I r (acc ++ [y]) M3 else I r acc M2)
    : ∀ acc, (h0 : I ds acc M) → Gv (xLcL gt t f ds η M) fun r M1 => I [] (acc ++ r) M1 := by
  induction ds generalizing M with
  | nil => intro acc h0; exact gv_ok (by simpa using h0)
  | cons d r ih =>
    intro acc h0
    unfold xLcL
    refine gv_bind (calm_gv ((hs d r acc M h0).imp fun η1 M1 h1 => gv_bind (calm_gv (Gv.imp h1 fun b M2 h2 => ?_))))
    cases b with
    | true =>
      simp only [if_true] at h2 ⊢
      refine gv_bind (calm_gv (Gv.imp h2 fun y M3 h3 => gv_bind ((ih _ h3).imp fun q M4 h4 => gv_ok ?_)))
      rw [List.append_assoc] at h4
      exact h4
    | false =>
      simp only [Bool.false_eq_true, if_false] at h2 ⊢
      exact ih _ h2
theorem v_lc {fi : XI} {gt : XG} {t : XT} {vs : List Nat} (h : Gv (fi η M) fun ds M1 => ds.length ≤ 100000 ∧ Gv (xLcL gt t f ds (wipeD η vs) M1) fun r M2 => P (.lst r) M2) : Gv (xLc frozenL fi gt t f vs η M) P := gv_bind (h.imp fun ds M1 ⟨e, h1⟩ => by
  rw [if_pos e]
  exact gv_bind (h1.imp fun r M2 h2 => gv_ok h2))
theorem v_gn {PD : Dv → Mem → Prop} (hp : PD (η.set i (some d)) M) : Gv (xgName i d η M) PD := gv_ok hp
theorem v_yes (h : PB true M) : Gv (xYes η M) PB := gv_ok h
/-- a def: its body -/
theorem v_body {n N : Nat} {b : XS} {ds : List D} (hl : ds.length = n) (h : Gv (b (ds.map some ++ List.replicate (N - n) none) M) fun fl M1 => match fl with
    | .rt d => P d M1
    | .nx _ => P .non M1
    | _ => False) : Gv (callB n N b ds M) P := by
  unfold callB
  rw [if_pos hl]
  refine gv_bind (h.imp fun fl M1 h1 => ?_)
  cases fl with
  | rt d => exact gv_ok h1
  | nx η' => exact gv_ok h1
  | bk _ => exact h1.elim
  | ct _ => exact h1.elim
end
end Dn
namespace Dn
open PySem PyProof.Rows L2 Evl
theorem v_lc_map {gt : XG} {t : XT} {f : XE} {η : Dv} {M : Mem} (h : D → D) : ∀ (ds : List D), (∀ d ∈ ds, Gv (gt d η M) fun η1 M1 => Gv (t η1 M1) fun b M2 => b = true ∧ Gv (f η1 M2) fun y M3 => y = h d ∧ M3 = M) → Gv (xLcL gt t f ds η M) fun r M1 => r = ds.map h ∧ M1 = M
  | [], _ => gv_ok ⟨rfl, rfl⟩
  | d :: ds, hs => by
    unfold xLcL
    refine gv_bind (calm_gv ((hs d (List.mem_cons_self ..)).imp fun η1 M1 h1 => gv_bind (calm_gv (Gv.imp h1 fun b M2 h2 => ?_))))
    obtain ⟨rfl, h2⟩ := h2
    rw [if_pos rfl]
    refine gv_bind (calm_gv (Gv.imp h2 fun y M3 ⟨e1, e2⟩ => ?_))
    subst e1 e2
    exact gv_bind ((v_lc_map h ds fun c hc => hs c (List.mem_cons_of_mem _ hc)).imp fun r M4 ⟨e3, e4⟩ => gv_ok ⟨by rw [e3]; rfl, e4⟩)
theorem asBs_map {α : Type} (p : α → Bool) : ∀ l : List α, asBs (l.map fun d => D.bl (p d)) = some (l.map p)
  | [] => rfl
  | a :: l => by simp [asBs, asB, asBs_map p l]
end Dn

namespace Dn
open PySem PyProof.Rows L2 Evl
section
variable {M : Mem} {η : Dv} {P : D → Mem → Prop} {PF : Fl → Mem → Prop} {PA : List D → Mem → Prop} {PB : Bool → Mem → Prop} {f g k : XE} {fa ga : XA} {p q : XT} {s u : XS} {i j : Nat} {d : D}
end
/-! ### sets: all sublists by numbers -/
/-! ### sorted by size, then as tuples go -/
open PySem.W (alike alikeAll dataLt dataLe)
end Dn

namespace Dn
open PySem PyProof.Rows L2 Evl
section
variable {M : Mem} {η : Dv} {P : D → Mem → Prop} {PF : Fl → Mem → Prop} {PA : List D → Mem → Prop} {PB : Bool → Mem → Prop} {f g k fo : XE} {fa ga : XA} {p q : XT} {s u : XS} {i j : Nat} {d : D} {x fl m : Str} {fls : List Str}
theorem frz_pI {z : Nat} {y : Str} {fs : List (Str × D)} (h : M[z]? = some (.ins y fs)) : frz M (.ptr z) = some (.ins y fs, M.set z .gone) := by simp only [frz, h]
theorem v_fld (hp : Gv (f η M) fun d M1 => ∃ fs v, asIns M1 d = some (x, fs) ∧ fs.lookup fl = some v ∧ P v M1) : Gv (xFld x fl f η M) P := gv_bind (hp.imp fun d M1 ⟨fs, v, e, e2, h⟩ => by
  simp only [e, if_true]
  exact gv_of e2 h)
theorem v_setF (hp : Gv (g η M) fun d M1 => Gv (f η M1) fun y M2 => ∃ n fs, y = .ptr n ∧ M2[n]? = some (.ins x fs) ∧ fs.length < 1000 ∧ PF (.nx η) (M2.set n (.ins x (putFD fl d fs)))) : Gv (xSetF x fl g f η M) PF :=
  gv_bind (hp.imp fun d M1 h1 => gv_bind (h1.imp fun y M2 ⟨n, fs, e1, e2, e3, h2⟩ => by
    subst e1
    simp only [e2]
    rw [if_pos ⟨trivial, e3⟩]
    exact gv_ok h2))
theorem v_fzI (hp : Gv (f η M) fun d M1 => ∃ n M2 r, d = .ptr n ∧ frzFs n fls M1 = some M2 ∧ frz M2 (.ptr n) = some r ∧ P r.1 r.2) : Gv (xFzI fls f η M) P := gv_bind (hp.imp fun d M1 ⟨n, M2, r, e1, e2, e3, h⟩ => by
  subst e1
  obtain ⟨r1, r2⟩ := r
  simp only [e2, e3]
  exact gv_ok h)
end
end Dn

/-! DnEval4: what the plain functions give, further forms -/
namespace Dn
open PySem PyProof.Rows L2 Evl
section
variable {M : Mem} {η : Dv} {P : D → Mem → Prop} {PA : List D → Mem → Prop} {PB : Bool → Mem → Prop} {PF : Fl → Mem → Prop} {f g k : XE} {fa : XA} {p q : XT} {s u : XS} {x : Str}
theorem v_isO (hp : Gv (fa η M) fun ds M1 => ∃ d fs, ds = [d, .fn x] ∧ asIns M1 d = some (x, fs) ∧ P (.bl true) M1) : Gv (xIsO x fa η M) P := gv_bind (hp.imp fun ds M1 ⟨d, fs, e1, e2, h⟩ => by
  subst e1
  dsimp only
  rw [if_pos rfl, e2]
  dsimp only
  rw [if_pos rfl]
  exact gv_ok h)
end
end Dn

/-! DnEval5: what the plain functions give: while, op=, enumerate, stars, two generators -/
namespace Dn
open PySem PyProof.Rows L2 Evl
section
variable {M : Mem} {η : Dv} {P : D → Mem → Prop} {PA : List D → Mem → Prop} {PB : Bool → Mem → Prop} {PF : Fl → Mem → Prop} {PD : Dv → Mem → Prop} {f g k : XE} {fa : XA} {t : XT} {s : XS}
end
end Dn

/-! DnEval6: what the plain functions give: errors, dicts by texts, op= of dicts, defs held by a name -/
namespace Dn
open PySem PyProof.Rows L2 Evl
/-- it comes to a value of which P holds, or to an error of which PX holds -/
def Go {α : Type} (r : R α) (P : α → Mem → Prop) (PX : Exc → Mem → Prop) : Prop := match r with
  | .ok a M => P a M
  | .ex e M => PX e M
  | .no => False
section
variable {M : Mem} {η : Dv} {P : D → Mem → Prop} {PA : List D → Mem → Prop} {PB : Bool → Mem → Prop} {PF : Fl → Mem → Prop} {PX : Exc → Mem → Prop} {f g k : XE} {fa : XA} {s u : XS}
theorem Go.imp {α : Type} {r : R α} {P Q : α → Mem → Prop} {PX PY : Exc → Mem → Prop} (h : Go r P PX) (h1 : ∀ a M, P a M → Q a M) (h2 : ∀ e M, PX e M → PY e M) : Go r Q PY := by
  cases r with
  | ok a M => exact h1 _ _ h
  | ex e M => exact h2 _ _ h
  | no => exact h
end
end Dn

/-! DnEval7: what the plain functions give: sets of texts, displays, updates, walks over lists of lists -/
namespace Dn
open PySem PyProof.Rows L2 Evl
section
variable {M : Mem} {η : Dv} {P : D → Mem → Prop} {PA : List D → Mem → Prop} {PB : Bool → Mem → Prop} {PF : Fl → Mem → Prop} {PX : Exc → Mem → Prop} {f g k : XE} {fa fk : XA} {s u : XS}
end
end Dn

namespace Dn
open PySem PyProof.Rows L2 Evl
/-! ### repr of data -/
mutual
/-- what a datum is to the shower -/
def pyD (M : Mem) : D → Option PyData
  | .non => some .none
  | .bl b => some (.bool b)
  | .int i => some (.int i)
  | .str s => some (.str s)
  | .tup ds => (pyDs M ds).map .tuple
  | .lst ds => (pyDs M ds).map .list
  | _ => none
def pyDs (M : Mem) : List D → Option (List PyData)
  | [] => some []
  | d :: ds => (pyD M d).bind fun x => (pyDs M ds).map (x :: ·)
end
/-- a list that may change, too -/
def pyM (M : Mem) : D → Option PyData
  | .ptr n => match M[n]? with
    | some (.lst ds) => (pyDs M ds).map .list
    | _ => none
  | d => pyD M d
mutual
inductive PyV (K : PySem.W.Frag) (H : Hp) : V → PyData → Prop
  | non : PyV K H .non .none
  | bl (b : Bool) : PyV K H (.bl b) (.bool b)
  | int (i : Int) : PyV K H (.int i) (.int i)
  | str (s : Str) : PyV K H (.str s) (.str s)
  | lst {a : Addr} {vs : List V} {ds : List PyData} : SqL K H a vs → PyVs K H vs ds → PyV K H (.ref a) (.list ds)
  | tup {a : Addr} {vs : List V} {ds : List PyData} : SqT K H a vs → PyVs K H vs ds → PyV K H (.ref a) (.tuple ds)
inductive PyVs (K : PySem.W.Frag) (H : Hp) : List V → List PyData → Prop
  | nil : PyVs K H [] []
  | cons {v : V} {d : PyData} {vs : List V} {ds : List PyData} : PyV K H v d → PyVs K H vs ds → PyVs K H (v :: vs) (d :: ds)
end
section
variable {K : PySem.W.Frag} {F B H : Hp} {ρ : List Addr} {M : Mem}
mutual
theorem pyD_snd (m : MR K F B ρ M H) : ∀ {d : D} {v : V} {p : PyData}, Rp K B ρ d v → pyD M d = some p → PyV K H v p
  | .non, _, _, r, h => by simp only [pyD] at h; cases h; cases r; exact .non
  | .bl b, _, _, r, h => by simp only [pyD] at h; cases h; cases r; exact .bl b
  | .int i, _, _, r, h => by simp only [pyD] at h; cases h; cases r; exact .int i
  | .str s, _, _, r, h => by simp only [pyD] at h; cases h; cases r; exact .str s
  | .tup ds, _, _, r, h => by
    simp only [pyD, Option.map_eq_some_iff] at h
    obtain ⟨ps, h1, rfl⟩ := h
    cases r with
    | tup e q => exact .tup (ex_t m.ex e) (pyDs_snd m q h1)
  | .lst ds, _, _, r, h => by
    simp only [pyD, Option.map_eq_some_iff] at h
    obtain ⟨ps, h1, rfl⟩ := h
    cases r with
    | lst e q => exact .lst (sq_of (m.ex _ _ e)) (pyDs_snd m q h1)
  | .dct _, _, _, _, h => by simp [pyD] at h
  | .dcT _, _, _, _, h => by simp [pyD] at h
  | .ins _ _, _, _, _, h => by simp [pyD] at h
  | .fn _, _, _, _, h => by simp [pyD] at h
  | .scr _, _, _, _, h => by simp [pyD] at h
  | .ptr _, _, _, _, h => by simp [pyD] at h
  | .raw _, _, _, _, h => by simp [pyD] at h
theorem pyDs_snd (m : MR K F B ρ M H) : ∀ {ds : List D} {vs : List V} {ps : List PyData}, Rps K B ρ ds vs → pyDs M ds = some ps → PyVs K H vs ps
  | [], _, _, r, h => by simp only [pyDs] at h; cases h; cases r; exact .nil
  | d :: ds, _, _, r, h => by
    simp only [pyDs, Option.bind_eq_some_iff, Option.map_eq_some_iff] at h
    obtain ⟨p, h1, ps, h2, rfl⟩ := h
    cases r with
    | cons r1 r2 => exact .cons (pyD_snd m r1 h1) (pyDs_snd m r2 h2)
end
theorem pyM_snd (m : MR K F B ρ M H) {d : D} {v : V} {p : PyData} (r : Rp K B ρ d v) (h : pyM M d = some p) : PyV K H v p := by
  cases d with
  | ptr n =>
    simp only [pyM] at h
    split at h
    · next ds hm =>
      simp only [Option.map_eq_some_iff] at h
      obtain ⟨ps, h1, rfl⟩ := h
      cases r with
      | ptr ha =>
        obtain ⟨vs, e, q, _⟩ := m.list ha hm
        exact .lst (sq_of e) (pyDs_snd m q h1)
    · cases h
  | _ => exact pyD_snd m r (by simpa only [pyM] using h)
end
section
variable {X : Cx} {pins : List (Addr × Obj)} {σ : L2.St} {H : Hp} {s : Shared}
mutual
theorem reads_of (I : Inv X pins σ H s) : ∀ {p : PyData} {v : V} {u : Value}, PyV X.K H v p → RelV v u → ∃ as, Reads s.heap u p as
  | .none, _, _, .non, r => by cases r; exact ⟨_, .none⟩
  | .bool b, _, _, .bl _, r => by cases r; exact ⟨_, .bool b⟩
  | .int i, _, _, .int _, r => by
    obtain ⟨t, rfl⟩ := r
    exact ⟨_, .int i t⟩
  | .str x, _, _, .str _, r => by
    obtain ⟨t, rfl⟩ := r
    exact ⟨_, .str x t⟩
  | .list ps, _, _, .lst hq hv, r => by
    cases r
    obtain ⟨its, rv, ⟨o, n, e, c, _, d⟩, _⟩ := I.list hq
    obtain ⟨as, h⟩ := readsAll_of I hv rv
    exact ⟨_, .list e c d (by simpa using h)⟩
  | .tuple ps, _, _, .tup hq hv, r => by
    cases r
    obtain ⟨its, rv, ⟨o, e, c, n, d⟩, _⟩ := I.tuple hq
    obtain ⟨as, h⟩ := readsAll_of I hv rv
    exact ⟨_, .tuple e c d (by simpa using h)⟩
theorem readsAll_of (I : Inv X pins σ H s) : ∀ {ps : List PyData} {vs : List V} {us : List Value}, PyVs X.K H vs ps → Vals vs us → ∃ as, ReadsAll s.heap us ps as
  | [], _, _, .nil, r => by cases r; exact ⟨_, .nil⟩
  | p :: ps, _, _, .cons h1 h2, r => by
    cases r with
    | cons r1 r2 =>
      obtain ⟨as, e1⟩ := reads_of I h1 r1
      obtain ⟨bs, e2⟩ := readsAll_of I h2 r2
      exact ⟨_, .cons e1 e2⟩
end
end
/-- a list or a tuple -/
def holds : PyData → Bool
  | .list _ => true
  | .tuple _ => true
  | _ => false
def reprFits (p : PyData) : Prop := holds p = true ∧ p.showable = true ∧ p.hasDict = false ∧ p.depth ≤ 100 ∧ p.shown.length ≤ sizeLine
section
variable {X : Cx}
theorem PyV.ref {K : PySem.W.Frag} {H : Hp} {v : V} {p : PyData} (h : PyV K H v p) (hp : holds p = true) : ∃ a, v = .ref a := by
  cases h with
  | lst _ _ => exact ⟨_, rfl⟩
  | tup _ _ => exact ⟨_, rfl⟩
  | _ => simp [holds] at hp
theorem call_reprD {k : Nat} (hg : X.A.guards = some []) (hr : Room k X.A) : CallR X (.builtin "repr") (fun xs H Q => ∃ a p, xs = [.ref a] ∧ PyV X.K H (.ref a) p ∧ reprFits p ∧ Q (.str p.shown) H) := by
  intro pins s σ H xs us Q I r h
  obtain ⟨a, p, rfl, hv, ⟨_, h1, h2, h3, h4⟩, q⟩ := h
  obtain ⟨u, rfl, rx⟩ := vals1 r
  cases rx
  obtain ⟨as, hr0⟩ := reads_of I hv rfl
  have hu := hr.un
  exact repr_of_reads' hr0 h1 (fun z => by rw [h2] at z; cases z) hg (by omega) (fun _ _ e => e) (fun h' u tk hk => ⟨.str p.shown, H, I.kept hk, ⟨_, rfl⟩, q⟩) h4
open Classical in
noncomputable def bRepr : OpC := one fun M d => (pyM M d).bind fun p => if reprFits p then some (.str p.shown) else none
theorem cd_repr {k : Nat} (hg : X.A.guards = some []) (hr : Room k X.A) : CallD X (.builtin "repr") bRepr := by
  refine ⟨_, call_reprD hg hr, fun F B ρ M H xs ds dz Q m rx e kk => ?_⟩
  obtain ⟨d, rfl, h⟩ := one_some e
  cases rx with
  | cons r rr =>
    cases rr
    simp only [Option.bind_eq_some_iff] at h
    obtain ⟨p, hp, h⟩ := h
    split at h
    · next hf =>
      cases h
      have hv := pyM_snd m r hp
      obtain ⟨a, rfl⟩ := hv.ref hf.1
      exact ⟨a, p, rfl, hv, hf, kk.same m (.str _)⟩
    · cases h
end
end Dn

namespace Dn
open PySem PyProof.Rows L2 Evl
/-- a def's promise where no repr is under way -/
structure FnOkG (P : Program) (w : World) (K : PySem.W.Frag) (mg : Str → Option Value) (base : Heap) (CX : CXT) (k : Nat) (f : Addr) (fd : FuncData) (ps : List Str) (sp : Sp) : Prop where
  lenG : ∀ xs H Q E, sp xs H Q E → xs.length = ps.length
  runG : ∀ (A : Around) (out : List Env) (t : Shared) (H : Hp) (as : Args) (us : List Value) (xs : List V) (Q : VK) (E : XK), A.guards = some [] → Room k A →
    Env0 P w K mg base A out t H → BindsTo t fd as (ps.zip us) → Vals xs us → sp xs H Q E →
    codeAny (model P w) A (.call (.ref f) as) (CR CX out P w H t Q E) t
section
variable {P : Program} {w : World} {K : PySem.W.Frag} {mg : Str → Option Value} {base : Heap}
theorem FnOkG.imp {CX : CXT} {k : Nat} {f : Addr} {fd : FuncData} {ps : List Str} {sp sp' : Sp} (F : FnOkG P w K mg base CX k f fd ps sp) (h : ∀ xs H Q E, sp' xs H Q E → sp xs H Q E) : FnOkG P w K mg base CX k f fd ps sp' :=
  ⟨fun xs H Q E q => F.lenG xs H Q E (h _ _ _ _ q), fun A out t H as us xs Q E g r e b v q => F.runG A out t H as us xs Q E g r e b v (h _ _ _ _ q)⟩
theorem fnG_of {x qual : Str} {st : Stmt} {f : Addr} {fd : FuncData} {N ps : List Str} {k : Nat} {sp : Sp} (F : Fun K x qual st f fd) (S : FnScope N ps (defScope st)) (hlen : ∀ xs H Q E, sp xs H Q E → xs.length = ps.length)
    (hb : ∀ (cd : Value) (A : Around) (out : List Env) (t : Shared) (H : Hp) (xs : List V) (Q : VK) (E : XK), A.guards = some [] → Room k (A.deeper (envOfC qual (defScope st) t.heap.objs.size f cd)) → sp xs H Q E →
      ∃ T, PSs (cxOf CX0 P w K mg base N qual (defScope st) f cd A out t H E).nox (defBody st) T ∧ T { nx := fun _ H' => Q .non H', rt := Q } (start N xs) H) :
    FnOkG P w K mg base CX0 (k + 1) f fd ps sp := by
  obtain ⟨oc, od, kV, doc, pm, an, cd, ct, osl, rfl, lk, hcd⟩ := F.ex
  refine ⟨hlen, fun A out t H as us xs Q E g hr e0 bd rv hs => ?_⟩
  have ln := hlen _ _ _ _ hs
  have kin : K.In t.heap := e0.mod.kin.keeps fun b o e => (e0.bs b o e).1
  have nl : t.heap.NoLimit := e0.mod.nolimit.keeps fun b o e => (e0.bs b o e).1
  obtain ⟨T, hT, hq⟩ := hb cd A out t H xs Q E g (hr.deeper _) hs
  refine codeAny_call_function hr.depth (kin _ _ lk) rfl S.co S.gen rfl (PySem.W.codeRec_of kin hcd) (bd _ _ _ _ ?_)
  refine wpAny_newFunctionEnv_cells S.kind (fun y hy => ?_) fun env he t1 ic => ?_
  · rcases S.par y.1 (List.of_mem_zip hy).1 with q | q
    · exact .inl q
    · exact .inr ⟨q, PySem.W.cellsFrom_some _ _ _ (.inl q)⟩
  subst he
  refine ⟨nl.keeps ic.toInCall.keep, codeAny_func ?_⟩
  have I : Inv (cxOf CX0 P w K mg base N qual (defScope st) f cd A out t H E) [] (start N xs) H t1 := inv_start S hr.hd e0 ln rv ic
  refine wpAny_mono (hT.nox.run [] t1 (start N xs) H _ I hq) (fun fl t2 h2 => ?_) fun e t2 h2 => h2
  cases fl with
  | ret u =>
    obtain ⟨v, _, H2, J, rw2, q2⟩ := h2
    exact ⟨v, H2, J.os, J.bare, J.base, J.hok, rw2, q2⟩
  | next =>
    obtain ⟨_, H2, J, q2⟩ := h2
    exact ⟨V.non, H2, J.os, J.bare, J.base, J.hok, rfl, q2⟩
  | brk => exact h2.elim fun _ z => z.elim fun _ z => z.2.elim
  | cont => exact h2.elim fun _ z => z.elim fun _ z => z.2.elim
end
section
variable {P : Program} {w : World} {K : PySem.W.Frag} {mg mb : Str → Option Value} {CX : CXT} {k : Nat} {fa a : Addr} {fd : FuncData} {x : Str} {sp : Sp} {t : Shared} {vs : List Value} {ns : List Int}
/-- from a heap in which at most the script is told -/
theorem law_from {H : Hp} (KX : K.In t.heap) (hns : t.heap.Ns mainGlobals mg) (hb : t.heap.Ns builtinsNs mb) (hbb : ∀ x : Str, x ≠ "__name__" → mb x = bootBuiltins x) (nl : t.heap.NoLimit) (hg : t.gens = #[])
    (ha : t.heap.get? a = some { cls := .type "list", data := .seq vs.toArray }) (hr : Room k callerA)
    (F : ∀ base : Heap, K.In base → base.Ns mainGlobals mg → FnOkG P w K mg base CX k fa fd [x] sp) (bd : ∀ (t : Shared) (u : Value), BindsTo t fd ⟨[u], []⟩ [(x, u)])
    (hO : Only H) (hok : HOk P w H t.heap) (hA : ∀ b, H b ≠ none → b = a) (hK : H a ≠ none → K.lookup a = none)
    (hs : sp [.ref a] H (fun v _ => v = .bl true) fun _ _ _ => False) (hx : ∀ e t', CX [] H t (fun _ _ _ => False) e t' → False) :
    codeAny (model P w) callerA (.call (.ref fa) ⟨[.ref a], []⟩) (fun r t' => r = .ok (.ret (.bool true)) ∧ OldK t.heap t'.heap ∧ t'.os = t.os ∧ AllBare t'.gens) t := by
  have free : ∀ b, b ≠ a → H b = none := fun b n => Classical.byContradiction fun z => n (hA b z)
  have nsH : ∀ {b : Addr} {m : Str → Option Value}, t.heap.Ns b m → (hidT t.heap H).Ns b m := fun {b m} z => by
    obtain ⟨o, es, ep, e, d, r⟩ := z
    refine ⟨o, es, ep, hidT_get e (free b fun q => ?_), d, r⟩
    subst q
    rw [ha] at e
    cases e
    cases d
  have kH : K.In (hidT t.heap H) := fun b o e => hidT_get (KX b o e) (Classical.byContradiction fun z => by
    have q := hA b z
    subst q
    rw [hK z] at e
    cases e)
  obtain ⟨mc, n1, n2⟩ := nl
  have md : Mod K mg (hidT t.heap H) := ⟨kH, nsH hns, ⟨mb, nsH hb, hbb⟩, ⟨mc, nsH n1, n2⟩⟩
  have e0 : Env0 P w K mg (hidT t.heap H) callerA [] t H :=
    ⟨rfl, md, fun _ _ e => of_hidT e, Nat.le_of_eq (hidT_size _ _), trivial, fun b q => absurd (show b ∈ ([] : List Addr) from q) (by simp), hok, .of_eq hg⟩
  refine codeAny_mono ((F _ kH (nsH hns)).runG callerA [] t H ⟨[.ref a], []⟩ [.ref a] [.ref a] _ _ rfl hr e0 (bd t _) (.cons rfl .nil) hs) fun r t' h => ?_
  cases r with
  | error e => exact (hx e t' h).elim
  | ok fl =>
    cases fl with
    | next => exact False.elim h
    | brk => exact False.elim h
    | cont => exact False.elim h
    | ret u =>
      obtain ⟨v, H2, os2, br, un, hok2, ru, rfl⟩ := h
      obtain rfl : u = Value.bool true := ru
      refine ⟨rfl, OldK.of_keep fun b o e => ?_, os2, br⟩
      rcases hO b with z | ⟨ob, ys, z⟩
      · exact un.keep b o e z (fun q => absurd (show b ∈ ([] : List Addr) from q) (by simp)) (by simp)
      · obtain ⟨e1, _⟩ := hok b _ z
        obtain ⟨e2, _⟩ := hok2 b _ (un.frzs b ob _ z)
        rw [e] at e1
        cases e1
        exact e2
theorem law_callG (KX : K.In t.heap) (hns : t.heap.Ns mainGlobals mg) (hb : t.heap.Ns builtinsNs mb) (hbb : ∀ x : Str, x ≠ "__name__" → mb x = bootBuiltins x) (nl : t.heap.NoLimit) (hg : t.gens = #[])
    (ha : t.heap.get? a = some { cls := .type "list", data := .seq vs.toArray }) (hi : IntsAre vs ns) (hl : ns.length ≤ sizeLine) (hr : Room k callerA)
    (F : ∀ base : Heap, K.In base → base.Ns mainGlobals mg → FnOkG P w K mg base CX k fa fd [x] sp) (bd : ∀ (t : Shared) (u : Value), BindsTo t fd ⟨[u], []⟩ [(x, u)])
    (hs : ∀ H : Hp, Only H → SqL K H a (ns.map V.int) → sp [.ref a] H (fun v _ => v = .bl true) fun _ _ _ => False) (hx : ∀ H e t', CX [] H t (fun _ _ _ => False) e t' → False) :
    codeAny (model P w) callerA (.call (.ref fa) ⟨[.ref a], []⟩) (fun r t' => r = .ok (.ret (.bool true)) ∧ OldK t.heap t'.heap ∧ t'.os = t.os ∧ AllBare t'.gens) t := by
  have rv := vals_ints hi
  have ln := hi.length
  cases lk : K.lookup a with
  | some o =>
    have e := KX a o lk
    rw [ha] at e
    cases e
    have hO : Only fun _ => none := fun _ => .inl rfl
    refine law_from (H := fun _ => none) KX hns hb hbb nl hg ha hr F bd hO (fun b u z => ?_) (fun b z => absurd rfl z) (fun z => absurd rfl z) (hs _ hO (.inr ⟨_, vs.toArray, _, lk, rfl, rfl, rfl, ?_, by simpa using rv⟩)) (hx _)
    · have z' : (none : Option HO) = some u := z
      cases z'
    · rw [List.size_toArray, ln]
      exact hl
  | none =>
    let H : Hp := fun b => if b = a then some (.frz { cls := .type "list", data := .seq vs.toArray } (.lst (ns.map V.int))) else none
    have at_ : H a = some (.frz { cls := .type "list", data := .seq vs.toArray } (.lst (ns.map V.int))) := if_pos rfl
    have off : ∀ b, b ≠ a → H b = none := fun b n => if_neg n
    have hO : Only H := fun b => by
      by_cases e : b = a
      · subst e
        exact .inr ⟨_, _, at_⟩
      · exact .inl (off b e)
    refine law_from (H := H) KX hns hb hbb nl hg ha hr F bd hO (fun b u z => ?_) (fun b z => Classical.byContradiction fun n => z (off b n)) (fun _ => lk) (hs _ hO (.inl (.inr ⟨_, at_⟩))) (hx _)
    by_cases e : b = a
    · subst e
      rw [at_] at z
      cases z
      exact ⟨ha, by rw [List.length_map]; exact hl, vs, _, rv, ha⟩
    · rw [off b e] at z
      cases z
end
theorem walk_ofG {l : PySem.W.OpenLaw} {n k : Nat} {q : Program} {loose : List Str} {XP : (Str → Option Value) → Heap → Prop} {YP : World → Heap → Prop} {d : DefRec} {K : Params → PySem.W.Frag} {CX : World → CXT} {sp : World → Sp} {x : Str}
    (hn : l.most = some n) (hn2 : n ≤ sizeLine) (hdf : d.params.defaults = []) (hr : Room k callerA) (hY : ∀ (w : World) (h : Heap), YP w h → (K w.params).In h)
    (F : ∀ (w : World) (mg : Str → Option Value) (fa : Addr) (h : Heap), (K w.params).In h → h.Ns mainGlobals mg → mg d.name = some (.ref fa) →
      ∃ fd : FuncData, (∀ (t : Shared) (u : Value), BindsTo t fd ⟨[u], []⟩ [(x, u)]) ∧ ∀ base : Heap, (K w.params).In base → base.Ns mainGlobals mg → FnOkG l.prog w (K w.params) mg base (CX w) k fa fd [x] (sp w))
    (hs : ∀ (w : World) (H : Hp) (a : Addr) (ns : List Int), ns.length ≤ n → (∀ z ∈ ns, Builtin.Int.intBits z ≤ 1048576) → Only H → SqL (K w.params) H a (ns.map V.int) → sp w [.ref a] H (fun v _ => v = .bl true) fun _ _ _ => False)
    (hx : ∀ (w : World) (H : Hp) (t : Shared) (e : Value) (t' : Shared), CX w [] H t (fun _ _ _ => False) e t' → False) :
    PySem.W.WalkO q loose XP YP l.row.toRowW d [] (fun f vs => PySem.call f vs) :=
  Att.attach_callB hn hdf fun w _ t mg _ fa _ _ _ _ a _ ns G Y _ _ _ hmg ho hi hlen hbits hg => by
    obtain ⟨fd, bd, hF⟩ := F w mg fa _ (hY w _ Y) G.T.g hmg
    exact law_callG (hY w _ Y) G.T.g G.T.b G.T.builtins G.T.nolimit hg ho hi (Nat.le_trans hlen hn2) hr hF bd (fun H h1 h2 => hs w H a ns hlen hbits h1 h2) fun H e t' => hx w H t e t'
theorem law_walkG {l : PySem.W.OpenLaw} {q : Program} {loose : List Str} {XP : (Str → Option Value) → Heap → Prop} {YP : World → Heap → Prop} {d : DefRec} {K : Params → PySem.W.Frag} {k : Nat} {x : Str} (hn : l.most = some 63) (hdf : d.params.defaults = []) (hr : Room k callerA)
    (hY : ∀ (w : World) (h : Heap), YP w h → (K w.params).In h)
    (F : ∀ (w : World) (mg : Str → Option Value) (fa : Addr) (h : Heap), (K w.params).In h → h.Ns mainGlobals mg → mg d.name = some (.ref fa) →
      ∃ fd : FuncData, (∀ (s : Shared) (u : Value), BindsTo s fd ⟨[u], []⟩ [(x, u)]) ∧ ∀ base : Heap, (K w.params).In base → base.Ns mainGlobals mg → FnOkG l.prog w (K w.params) mg base CX0 k fa fd [x] (spLaw (K w.params))) :
    PySem.W.WalkO q loose XP YP l.row.toRowW d [] (fun f vs => PySem.call f vs) :=
  walk_ofG (n := 63) (k := k) (x := x) (CX := fun _ => CX0) (sp := fun w => spLaw (K w.params)) hn (by decide) hdf hr hY F (fun _ _ a ns hl hb _ hS => ⟨a, ns, rfl, hS, hl, hb, fun _ => rfl⟩) fun _ _ _ _ _ z => z
theorem fnG_okE {P : Program} {w : World} {K : PySem.W.Frag} {mg : Str → Option Value} {base : Heap} {x qual : Str} {st : Stmt} {f : Addr} {fd : FuncData} {N ps : List Str} {k n m lv : Nat} {body : XS} {fF : Fn} (F : Fun K x qual st f fd) (S : FnScope N ps (defScope st))
    (hf : fF = callB n m body) (hn : ps.length = n) (hm : N.length = m) (hlv : lv = k + 1)
    (hb : ∀ (cdv : Value) (A : Around) (outer : List Env) (s : Shared) (H : Hp) (E : XK) (W : WX), A.guards = some [] → Room k (A.deeper (envOfC qual (defScope st) s.heap.objs.size f cdv)) → DSs (cxOf CX0 P w K mg base N qual (defScope st) f cdv A outer s H E).nox W (defBody st) body) :
    FnOkG P w K mg base CX0 lv f fd ps (spF K mg n fF) := by
  subst hf hn hm hlv
  refine fnG_of F S (fun vs H Q E h => ?_) (fun cdv A outer s H vs Q E hg hr h => ?_)
  · obtain ⟨_, ds, _, _, _, _, hl, r, _⟩ := h
    rw [← r.len]
    exact hl
  · obtain ⟨U, ds, Fr, B, ρ, M, hl, r, m, wp⟩ := h
    refine ⟨_, hb cdv A outer s H E (fun c d _ H => U c d H) hg hr, ?_⟩
    have e := er_start (N := N) r
    rw [hl] at e
    refine ⟨_, Fr, B, ρ, M, e, m, ?_⟩
    unfold callB at wp
    rw [if_pos hl] at wp
    exact wp.bind fun fl M1 B1 ρ1 H1 l1 m1 w1 => by
      cases fl with
      | nx η' => exact fun σ' _ => Wp.ret w1 m1 _ .non
      | rt d => exact fun v rv => Wp.ret w1 m1 v rv
      | bk η' => exact w1.elim
      | ct η' => exact w1.elim
end Dn

/-! DnText: split, partition, f-strings, str(..), int(text), get of a dict of the module -/
namespace Dn
open PySem PySem.Spec PyProof.Rows L2 Evl
section
variable {X : Cx} {W : WX} {o e e2 : Expr} {es : List Expr} {f g k : XE} {apos pos : Pos}
theorem ofS {U : XK} {K : PySem.W.Frag} {mg : Str → Option Value} {F B : Hp} {ρ : List Addr} {M : Mem} {α : Type} {P : α → Hp → List Addr → Hp → Prop} {d : D} {v : V} {h : Str → Mem → R α} (r : Rp K B ρ d v) (w : Wp K mg F B ρ U P ((R.of (asS d) M).bind h)) : ∃ z, d = .str z ∧ v = .str z ∧ Wp K mg F B ρ U P (h z M) := by
  cases d with
  | str z => cases r; exact ⟨z, rfl, rfl, w⟩
  | _ => exact w.elim
theorem bt_repr : bootBuiltins "repr" = some (.builtin "repr") := by decide +kernel
/-! f-strings -/
def xFmt (f : XE) : XE := fun η M => (f η M).bind fun d M1 => match d with
  | .str y => if y.length ≤ sizeLine then .ok (.str y) M1 else .no
  | .int i => if i.natAbs.log2 < 1920 then .ok (.str (toString i)) M1 else .no
  | _ => .no
theorem de_fmt (he : DE X W e f) : DE X W (.FormattedValue e (-1) none pos) (xFmt f) := PE.imp (pe_fmt he) fun σ H Q z => by
  obtain ⟨η, F, B, ρ, M, er, m, w⟩ := z
  refine ⟨η, F, B, ρ, M, er, m, w.bind fun d M1 B1 ρ1 H1 l1 m1 w1 v rv => ?_⟩
  split at w1
  · next y =>
    cases rv
    split at w1
    · next h => exact .inl ⟨y, rfl, h, (done_of w1).same m1 (.str _)⟩
    · exact w1.elim
  · next i =>
    cases rv
    split at w1
    · next h => exact .inr ⟨i, rfl, h, (done_of w1).same m1 (.str _)⟩
    · exact w1.elim
  · exact w1.elim
inductive DJs (X : Cx) (W : WX) : List Expr → List XE → Prop where
  | nil : DJs X W [] []
  | cons {e : Expr} {f : XE} {es : List Expr} {fs : List XE} (h : DE X W e f) (r : DJs X W es fs) : DJs X W (e :: es) (f :: fs)
theorem DJs.pj {es : List Expr} {fs : List XE} (h : DJs X W es fs) : PJ X es (fs.map (tE X.K X.mg W)) := by
  induction h with
  | nil => exact .nil
  | cons h _ ih => exact .cons h ih
def xJs : List XE → Str → XE
  | [], acc => fun _ M => .ok (.str acc) M
  | f :: fs, acc => fun η M => (f η M).bind fun d M1 => (R.of (asS d) M1).bind fun y M2 => if (acc ++ y).length ≤ sizeLine then xJs fs (acc ++ y) η M2 else .no
theorem js_snd {K : PySem.W.Frag} {mg : Str → Option Value} : ∀ (fs : List XE) (acc : Str) (σ : L2.St) (H : Hp) (Q : VK), tE K mg W (xJs fs acc) σ H Q → tJs (fs.map (tE K mg W)) acc σ H fun out H1 => Q (.str out) H1
  | [], acc, σ, H, Q, ⟨η, F, B, ρ, M, er, m, w⟩ => w.ret m _ (.str _)
  | f :: fs, acc, σ, H, Q, ⟨η, F, B, ρ, M, er, m, w⟩ => by
    refine ⟨η, F, B, ρ, M, er, m, w.bind fun d M1 B1 ρ1 H1 l1 m1 w1 v rv => ?_⟩
    obtain ⟨y, rfl, rfl, w1⟩ := ofS rv w1
    split at w1
    · next h => exact ⟨y, rfl, h, js_snd fs _ σ H1 Q ⟨η, F, B1, ρ1, M1, er.mono l1, m1, w1⟩⟩
    · exact w1.elim
theorem de_joined {v1 v2 : Expr} {rest : List Expr} {fs : List XE} (h : DJs X W (v1 :: v2 :: rest) fs) : DE X W (.JoinedStr (v1 :: v2 :: rest) pos) (xJs fs Str.empty) := PE.imp (pe_joined h.pj) fun σ H Q z => js_snd fs _ σ H Q z
/-! str(..), int(text) -/
def bStr1 : OpC := one fun _ d => (asS d).map .str
def bStr2 : OpC := one fun _ d => (asI d).bind fun i => if i.natAbs.log2 < 1920 then some (.str (toString i)) else none
theorem cd_str1 : CallD X (.type "str") bStr1 := by
  refine ⟨_, SkE.call_str_str, fun F B ρ M H xs ds dz Q m rx e k => ?_⟩
  obtain ⟨d, rfl, h⟩ := one_some e
  cases rx with
  | cons r rr =>
    cases rr
    cases d with
    | str z => cases r; cases h; exact ⟨z, rfl, k.same m (.str _)⟩
    | _ => cases h
theorem cd_str2 : CallD X (.type "str") bStr2 := by
  refine ⟨_, call_str_int, fun F B ρ M H xs ds dz Q m rx e k => ?_⟩
  obtain ⟨d, rfl, h⟩ := one_some e
  cases rx with
  | cons r rr =>
    cases rr
    cases d with
    | int z =>
      cases r
      simp only [asI, Option.bind_some] at h
      split at h
      · next hz => cases h; exact ⟨z, rfl, hz, k.same m (.str _)⟩
      · cases h
    | _ => cases h
theorem cd_str : CallD X (.type "str") (cOr bStr1 bStr2) := cd_str1.or cd_str2
/-! a list + a list, that may change -/
/-! get of a dict of the module -/
end
/-- a dict of the module: all of it -/
structure KtF (K : PySem.W.Frag) (w : World) (mg : Str → Option Value) (x : Str) (tget : List (Str × D)) : Prop where
  ex : ∃ (d : Addr) (es : Array DictEntry) (n : Nat), mg x = some (.ref d) ∧ PySem.W.nsIn K mainGlobals x = some (some (.ref d)) ∧ KDict K w d es n ∧
    (∀ s c, tget.lookup s = some c → ∃ u v, PySem.W.nsIn K d s = some (some u) ∧ RelV v u ∧ ∀ B ρ, Rp K B ρ c v) ∧ ∀ s, tget.lookup s = none → PySem.W.nsIn K d s = some none
section
variable {X : Cx} {o e e2 : Expr} {to te tk : TE} {apos cpos : Pos} {d : Addr} {es : Array DictEntry} {n : Nat}
end
section
variable {X : Cx} {W : WX} {o e e2 : Expr} {f g k : XE} {apos pos : Pos} {x : Str} {tget : List (Str × D)}
end
end Dn

/-! DnEval8: what the plain functions give: texts -/
namespace Dn
open PySem PyProof.Rows L2 Evl
section
variable {M : Mem} {η : Dv} {P : D → Mem → Prop} {PA : List D → Mem → Prop} {PB : Bool → Mem → Prop} {PF : Fl → Mem → Prop} {PX : Exc → Mem → Prop} {f g k : XE} {fa fk : XA} {s u : XS}
theorem v_fmt (h : Gv (f η M) fun x M1 => (∃ y : Str, x = .str y ∧ y.length ≤ sizeLine ∧ P (.str y) M1) ∨ ∃ i : Int, x = .int i ∧ i.natAbs.log2 < 1920 ∧ P (.str (toString i)) M1) : Gv (xFmt f η M) P :=
  gv_bind (h.imp fun x M1 h1 => by
    rcases h1 with ⟨y, e, h2, h3⟩ | ⟨y, e, h2, h3⟩
    · subst e
      dsimp only
      rw [if_pos h2]
      exact gv_ok h3
    · subst e
      dsimp only
      rw [if_pos h2]
      exact gv_ok h3)
theorem v_js0 {acc : Str} (h : P (.str acc) M) : Gv (xJs [] acc η M) P := gv_ok h
theorem v_js1 {fs : List XE} {acc : Str} (h : Gv (f η M) fun x M1 => ∃ y : Str, x = .str y ∧ (acc ++ y).length ≤ sizeLine ∧ Gv (xJs fs (acc ++ y) η M1) P) : Gv (xJs (f :: fs) acc η M) P :=
  gv_bind (h.imp fun x M1 ⟨y, e, h1, h2⟩ => by
    subst e
    refine gv_bind (gv_ok ?_)
    rw [if_pos h1]
    exact h2)
end
end Dn

/-! DnHouse: making and methods with keywords; methods with a default left out; del d[k]; xs.remove(text) -/
namespace Dn
open PySem PySem.Spec PyProof.Rows L2 Evl
/-- how the class x is made: by n values and the keywords ks, in the parameters' order -/
structure MkK (P : Program) (w : World) (K : PySem.W.Frag) (mg : Str → Option Value) (base : Heap) (k : Nat) (x : Str) (n : Nat) (ks : List Str) (f : Fn) : Prop where
  ex : ∃ (C a : Addr) (fd : FuncData) (ps : List Str), PySem.W.nsIn K mainGlobals x = some (some (.ref C)) ∧ mg x = some (.ref C) ∧ Mk K C a ∧ FnOk P w K mg base CX0 k a fd ps (spF K mg (1 + n + ks.length) f) ∧ KBn K fd ps (n + 1) ks (fun us ws => us ++ ws) (fun vs zs => vs ++ zs)
section
variable {X : Cx} {W : WX} {o e : Expr} {es : List Expr} {kws : List Keyword} {pos apos : Pos} {f g fo : XE} {fa fk : XA} {x m : Str}
/-! ### methods with keywords, or with defaults left out -/
/-- a method called with n values (self among them) and the keywords ks, in the parameters' order -/
structure MtK (P : Program) (w : World) (K : PySem.W.Frag) (mg : Str → Option Value) (base : Heap) (k : Nat) (x m : Str) (n : Nat) (ks : List Str) (f : Fn) : Prop where
  ex : ∃ (C a : Addr) (fd : FuncData) (ps : List Str), PySem.W.nsIn K mainGlobals x = some (some (.ref C)) ∧ Cls K C ∧ Meth K C m a ∧ FnOk P w K mg base CX0 k a fd ps (spF K mg (n + ks.length) f) ∧ KBn K fd ps n ks (fun us ws => us ++ ws) (fun vs zs => vs ++ zs)
/-- a method called with n values (self among them); dfl fill up -/
structure MtDf (P : Program) (w : World) (K : PySem.W.Frag) (mg : Str → Option Value) (base : Heap) (k : Nat) (x m : Str) (n : Nat) (dfl : List D) (f : Fn) : Prop where
  ex : ∃ (C a : Addr) (fd : FuncData) (ps : List Str) (ds : List Value) (dvs : List V), PySem.W.nsIn K mainGlobals x = some (some (.ref C)) ∧ Cls K C ∧ Meth K C m a ∧ FnOk P w K mg base CX0 k a fd ps (spF K mg (n + dfl.length) f) ∧ Binds K fd ps ds ∧ Vals dvs ds ∧ ∀ B ρ, Rps K B ρ dfl dvs
end

/-! ### del d[k] -/
section
variable {X : Cx} {W : WX} {o i : Expr} {f g : XE} {tpos pos apos cpos : Pos}
end

/-! ### xs.remove(text) -/
section
variable {X : Cx}
end

/-! ### a.f = b.g = c.h = e -/
section
variable {X : Cx} {W : WX} {o value : Expr} {f g : XE} {pos tpos : Pos} {x fl : Str} {fls : List Str}
end

/-! ### <, >, <= of data; min of a list of data -/
section
open PySem.W (alike dataLt AllAlike)
variable {X : Cx}
/-! min of a list of data -/
mutual
theorem toP_inj : ∀ {d e : D} {p : PyData}, toP d = some p → toP e = some p → d = e
  | .non, e, p, h, q => by
    simp only [toP] at h
    cases h
    cases e <;> simp [toP] at q <;> rfl
  | .bl b, e, p, h, q => by
    simp only [toP] at h
    cases h
    cases e <;> simp [toP] at q
    rw [q]
  | .int b, e, p, h, q => by
    simp only [toP] at h
    cases h
    cases e <;> simp [toP] at q
    rw [q]
  | .str b, e, p, h, q => by
    simp only [toP] at h
    cases h
    cases e <;> simp [toP] at q
    rw [q]
  | .lst ds, e, p, h, q => by
    simp only [toP, Option.map_eq_some_iff] at h
    obtain ⟨ps, h1, rfl⟩ := h
    cases e <;> simp [toP] at q
    rw [toPs_inj h1 q]
  | .tup ds, e, p, h, q => by
    simp only [toP, Option.map_eq_some_iff] at h
    obtain ⟨ps, h1, rfl⟩ := h
    cases e <;> simp [toP] at q
    rw [toPs_inj h1 q]
  | .dct _, _, _, h, _ => by simp [toP] at h
  | .dcT _, _, _, h, _ => by simp [toP] at h
  | .ins _ _, _, _, h, _ => by simp [toP] at h
  | .fn _, _, _, h, _ => by simp [toP] at h
  | .scr _, _, _, h, _ => by simp [toP] at h
  | .ptr _, _, _, h, _ => by simp [toP] at h
  | .raw _, _, _, h, _ => by simp [toP] at h
theorem toPs_inj : ∀ {ds es : List D} {ps : List PyData}, toPs ds = some ps → toPs es = some ps → ds = es
  | [], es, ps, h, q => by
    simp only [toPs] at h
    cases h
    cases es with
    | nil => rfl
    | cons e es =>
      simp only [toPs, Option.bind_eq_some_iff, Option.map_eq_some_iff] at q
      obtain ⟨_, _, _, _, z⟩ := q
      cases z
  | d :: ds, es, ps, h, q => by
    simp only [toPs, Option.bind_eq_some_iff, Option.map_eq_some_iff] at h
    obtain ⟨p, h1, ps', h2, rfl⟩ := h
    cases es with
    | nil => simp [toPs] at q
    | cons e es =>
      simp only [toPs, Option.bind_eq_some_iff, Option.map_eq_some_iff] at q
      obtain ⟨p2, q1, ps2, q2, z⟩ := q
      cases z
      rw [toP_inj h1 q1, toPs_inj h2 q2]
end
end

/-! len of a dict -/
section
variable {X : Cx}
end
end Dn

/-! DnLock: walks over dicts that may change (locked while they are walked) -/
namespace Dn
open PySem PySem.Spec PyProof.Rows L2 Evl
section
variable {K : PySem.W.Frag} {F B H : Hp} {ρ : List Addr} {M : Mem}
end
/-- a walk that gives just these, as long as u stands at a in the frame -/
structure WalkL (K : PySem.W.Frag) (J : It) (a : Addr) (u : HO) (B : Hp) (ρ : List Addr) (ds : List D) : Prop where
  w : ∃ (G : Hp → Prop) (Y : Nat → Hp → V → Hp → Prop), Walk J ds.length G Y ∧ (∀ H, H a = some u → G H) ∧
    ∀ (i : Nat) (d : D), ds[i]? = some d → ∀ F B1 ρ1 M H x H2, Le B ρ B1 ρ1 → MR K F B1 ρ1 M H → Y i H x H2 → ∃ B2, Le B1 ρ1 B2 ρ1 ∧ MR K F B2 ρ1 M H2 ∧ Rp K B2 ρ1 d x ∧ Ex H H2
/-- how a locked dict is walked: ex, what comes -/
structure DLk (X : Cx) (tg it e : Expr) (ex : List (L2.Key × D) → List D) : Prop where
  ex : ∃ mk : Addr → Obj → List (L2.Key × V) → It, (∀ td, PE X e td → PI X tg it (fun σ H R => td σ H fun x H1 => ∃ d o kvs, x = .ref d ∧ H1 d = some (.frz o (.dK kvs)) ∧ R (mk d o kvs) H1)) ∧
    ∀ (B : Hp) (ρ : List Addr) (d : Addr) (o : Obj) (kvs : List (L2.Key × V)) (kds : List (L2.Key × D)), Paired (PrD X.K B ρ) kds kvs → WalkL X.K (mk d o kvs) d (.frz o (.dK kvs)) B ρ (ex kds)
section
variable {X : Cx} {W : WX} {tg it e : Expr} {f : XE} {pos : Pos} {exf : List (L2.Key × D) → List D}
end

/-! sorted of a dict by ints -/
/-! name = [.. for .. for ..] -/
section
variable {X : Cx} {W : WX} {tg it tg1 it1 elt : Expr} {f : XE} {pos : Pos}
end
end Dn

/-! DnEval9: plain rules for houses -/
namespace Dn
open PySem L2 Evl
section
variable {η : Dv} {M : Mem} {P : D → Mem → Prop} {PF : Fl → Mem → Prop} {PD : Dv → Mem → Prop} {f g fo el : XE} {fa fk : XA} {s : XS} {x m fl : Str}
end
end Dn

/-! DnItems: list(d.items()) of a dict with tuple keys -/
namespace Dn
open PySem PySem.Spec PyProof.Rows L2 Evl
section
variable {X : Cx} {e : Expr} {te : TE} {p apos cpos pos : Pos}
end
/-! the same on data -/
section
variable {X : Cx} {W : WX} {e : Expr} {f : XE} {p apos cpos pos : Pos}
end
end Dn

/-! DnCount: xs.count(s), xs of texts and None -/
namespace Dn
open PySem PySem.Spec PyProof.Rows L2 Evl
section
variable {X : Cx} {W : WX} {o e : Expr} {f : XE} {fa : XA} {apos cpos : Pos}
variable {η : Dv} {M : Mem} {P : D → Mem → Prop}
end
end Dn

/-! DnMkP: making by keywords in any order, also with nothing positional, and with defaults left out -/
namespace Dn
open PySem PySem.Spec PyProof.Rows L2 Evl
/-- those at the places -/
def permL {α : Type} (is : List Nat) (xs : List α) : List α := is.filterMap fun i => xs[i]?
theorem permL_vals {vs : List V} {us : List Value} (h : Vals vs us) : ∀ is : List Nat, Vals (permL is vs) (permL is us)
  | [] => .nil
  | i :: is => by
    unfold permL
    cases hu : us[i]? with
    | none =>
      have hv : vs[i]? = none := by
        rw [List.getElem?_eq_none_iff] at hu ⊢
        rw [h.length]
        exact hu
      rw [List.filterMap_cons_none hu, List.filterMap_cons_none hv]
      exact permL_vals h is
    | some u =>
      obtain ⟨x, hx, rx⟩ := vals_get h hu
      rw [List.filterMap_cons_some hu, List.filterMap_cons_some hx]
      exact .cons rx (permL_vals h is)
theorem permL_rps {K : PySem.W.Frag} {B : Hp} {ρ : List Addr} {ds : List D} {vs : List V} (h : Rps K B ρ ds vs) : ∀ is : List Nat, Rps K B ρ (permL is ds) (permL is vs)
  | [] => .nil
  | i :: is => by
    unfold permL
    cases hu : vs[i]? with
    | none =>
      have hv : ds[i]? = none := by
        rw [List.getElem?_eq_none_iff] at hu ⊢
        rw [h.len]
        exact hu
      rw [List.filterMap_cons_none hu, List.filterMap_cons_none hv]
      exact permL_rps h is
    | some u =>
      obtain ⟨x, hx, rx⟩ := h.getV hu
      rw [List.filterMap_cons_some hu, List.filterMap_cons_some hx]
      exact .cons rx (permL_rps h is)
theorem kbP_of {K : PySem.W.Frag} {x qual : Str} {st : Stmt} {f : Addr} {fd : FuncData} {ps ks : List Str} {kws : List (Str × V)} {n : Nat} (is : List Nat) (ms : List (Str × V)) (F : FunD K x qual (defArgs st) (defBody st) (defScope st) [] kws f fd) (hk : kws ≠ [])
    (hms : ∀ q ∈ ms, q ∈ kws)
    (h : ∀ (D : Addr) (doc pm : Value) (an : Option Addr) (cdv ct : Value) (us mv ws : List Value), us.length = n → mv.length = ms.length → ws.length = ks.length →
      KwChain D ((ms.map (·.1)).zip mv) (bindArgs (PySem.W.fnOf x qual (defArgs st) (defBody st) (defScope st) .none (.ref D) doc pm an cdv ct) ⟨us, ks.zip ws⟩) (ps.zip (permL is (us ++ ws ++ mv)))) :
    ∃ mv : List Value, KBn K fd ps n ks (fun us ws => permL is (us ++ ws ++ mv)) (fun vs zs => permL is (vs ++ zs ++ ms.map (·.2))) :=
  F.kbinds0 n ks ms (fun us mz ws => permL is (us ++ ws ++ mz)) hk hms (fun r1 r2 r3 => permL_vals ((r1.append r3).append r2) is) h
/-- how the class x is made by n values and the keywords ks: is tells each parameter's place; dfl: what is left out -/
structure MkP (P : Program) (w : World) (K : PySem.W.Frag) (mg : Str → Option Value) (base : Heap) (k : Nat) (x : Str) (n : Nat) (ks : List Str) (is : List Nat) (dfl : List D) (f : Fn) : Prop where
  ex : ∃ (C a : Addr) (fd : FuncData) (ps : List Str) (mv : List Value) (dvs : List V), PySem.W.nsIn K mainGlobals x = some (some (.ref C)) ∧ mg x = some (.ref C) ∧ Mk K C a ∧ FnOk P w K mg base CX0 k a fd ps (spF K mg is.length f) ∧
    KBn K fd ps (n + 1) ks (fun us ws => permL is (us ++ ws ++ mv)) (fun vs zs => permL is (vs ++ zs ++ dvs)) ∧ ∀ B ρ, Rps K B ρ dfl dvs
section
variable {X : Cx} {W : WX} {o e : Expr} {es : List Expr} {kws : List Keyword} {pos apos : Pos} {f g fo : XE} {fa fk : XA} {x m : Str}
def xMakeP (x : Str) (n k : Nat) (is : List Nat) (dfl : List D) (f : Fn) (fa fk : XA) : XE := fun η M => (fa η M).bind fun ds M1 => (fk η M1).bind fun cs M2 =>
  if ds.length = n ∧ cs.length = k ∧ (permL is (.ptr M2.length :: (ds ++ cs ++ dfl))).length = is.length then (f (permL is (.ptr M2.length :: (ds ++ cs ++ dfl))) (M2 ++ [.ins x []])).bind (madeD M2.length) else .no
theorem makeP_snd {C ad : Addr} {k n kk : Nat} {ks : List Str} {is : List Nat} {dfl : List D} {dvs : List V} {fn : Fn} (hC : PySem.W.nsIn X.K mainGlobals x = some (some (.ref C))) (hd : ∀ B ρ, Rps X.K B ρ dfl dvs) (hkl : ks.length = kk) (σ : L2.St) (H : Hp) (Q : VK) (z : tE X.K X.mg W (xMakeP x n kk is dfl fn fa fk) σ H Q) :
    tMakeK C n ks.length (spF X.K X.mg is.length fn) (fun vs zs => permL is (vs ++ zs ++ dvs)) E0 (tA X.K X.mg W fa) (tA X.K X.mg W fk) σ H Q := by
  subst hkl
  obtain ⟨η, F, B, ρ, M, er, mm, w⟩ := z
  refine ⟨η, F, B, ρ, M, er, mm, w.bind fun ds M1 B1 ρ1 H1 l1 m1 w1 vs rv => ?_⟩
  refine ⟨η, F, B1, ρ1, M1, er.mono l1, m1, w1.bind fun cs M2 B2 ρ2 H2 l2 m2 w2 us ru => ?_⟩
  split at w2
  · next hl =>
    have rv2 := rv.mono l2
    refine ⟨by rw [← rv2.len]; exact hl.1, by rw [← ru.len]; exact hl.2.1, fun a dx na nd hne => ?_⟩
    have m3 := m2.more (Ex.new (o := .own a) nd)
    have na' : upd H2 dx (.own a) a = none := by rw [upd_ne (Ne.symm hne)]; exact na
    obtain ⟨m4, l4⟩ := m3.alloc (o := .ins C dx []) (ob := .ins x []) na' ⟨C, dx, [], hC, upd_same, .nil⟩
    have hp : (ρ2 ++ [a])[M2.length]? = some a := by rw [← m2.len]; simp
    refine ⟨_, permL is (.ptr M2.length :: (ds ++ cs ++ dfl)), F, B2, ρ2 ++ [a], M2 ++ [.ins x []], hl.2.2, permL_rps (.cons (.ptr hp) (((rv2.app ru).app (hd _ _)).mono l4)) is, m4, (w2.mono l4).bind fun r M5 B5 ρ5 H5 l5 m5 w5 v rv' => ?_⟩
    cases r with
    | non =>
      cases rv'
      exact ⟨rfl, Wp.ret w5 m5 _ (.ptr (l5.at hp))⟩
    | _ => exact w5.elim
  · exact w2.elim
theorem de_makeP {k n kk : Nat} {ks : List Str} {is : List Nat} {dfl : List D} {fn : Fn} {p0 : Pos} (G : MkP X.prog X.w X.K X.mg X.base k x n ks is dfl fn) (hr : Room (k + 1) X.A) (hg : Gl X x) (ha : DA X W (e :: es) fa) (hkw : PKD X W kws fk)
    (hall : (backToKw pos (keywordEach kws X.env)).all (·.1.isSome) = true := by rfl) (hks : (backToKw pos (keywordEach kws X.env)).filterMap (·.1) = ks := by rfl) (hdb : (x == ("__debug__" : Str)) = false := by decide)
    (he : starEach (e :: es) X.env = (false, eval e X.env) :: starEach es X.env := by rfl) (hpl : ((backTo pos (starEach (e :: es) X.env)).any (·.1) || (backToKw pos (keywordEach kws X.env)).any (·.1.isNone)) = false := by rfl)
    (hkl : ks.length = kk := by rfl) : DE X W (.Call (.Name x p0) (e :: es) kws pos) (xMakeP x n kk is dfl fn fa fk) := by
  obtain ⟨C, ad, fd, ps, mv, dvs, hC, hm, mk, Fo, hb, hd⟩ := G.ex
  exact PE.imp (pe_makeK (E := E0) mk Fo hr hg hm hb passW ha hkw.pk hall hks hdb he hpl) (makeP_snd (ad := ad) (k := k) hC hd hkl)
theorem de_makeP0 {k kk : Nat} {ks : List Str} {is : List Nat} {dfl : List D} {fn : Fn} {p0 : Pos} (G : MkP X.prog X.w X.K X.mg X.base k x 0 ks is dfl fn) (hr : Room (k + 1) X.A) (hg : Gl X x) (hkw : PKD X W kws fk)
    (hall : (backToKw pos (keywordEach kws X.env)).all (·.1.isSome) = true := by rfl) (hks : (backToKw pos (keywordEach kws X.env)).filterMap (·.1) = ks := by rfl) (hdb : (x == ("__debug__" : Str)) = false := by decide)
    (hpl : ((backTo pos (starEach [] X.env)).any (·.1) || (backToKw pos (keywordEach kws X.env)).any (·.1.isNone)) = false := by rfl)
    (hkl : ks.length = kk := by rfl) : DE X W (.Call (.Name x p0) [] kws pos) (xMakeP x 0 kk is dfl fn xNil fk) := by
  obtain ⟨C, ad, fd, ps, mv, dvs, hC, hm, mk, Fo, hb, hd⟩ := G.ex
  refine PE.imp (pe_makeK0 (E := E0) mk Fo hr hg hm hb passW hkw.pk hall hks hdb hpl) fun σ H Q z => ?_
  have q := makeP_snd (ad := ad) (k := k) (n := 0) hC hd hkl σ H Q z
  obtain ⟨η, F, B, ρ, M, er, mm, w⟩ := q
  exact Wp.ret w mm [] .nil
end
end Dn

/-! DnEqX: == by an own __eq__ with anything on the other side; in, not in, list.count by it -/
namespace Dn
open PySem PySem.Spec PyProof.Rows L2
open AutoSeq1 (wpAny_loadPart')
open MeetsSeq MeetsSeq2 MeetsSeq3 SeqRoads2 SeqAt GQ
section
variable {prog : Program} {w : World} {A : Around} {E : Value → Shared → Prop} {s : Shared} {K : PySem.W.Frag} {b C f : Addr} {ob : Obj} {od : Option Obj}
theorem eqBool_left {a : Addr} {v : Value} {Q : Bool → Shared → Prop} (hne : v ≠ .ref a) (h : wpAny (model prog w) A (richCompare .Eq (.ref a) v) (fun z s' => ∃ r, z = .bool r ∧ Q r s') E s) : wpAny (model prog w) A (eqBool (.ref a) v) Q E s := by
  unfold eqBool
  refine wpAny_holding ?_
  refine wpAny_ite_split (fun hab => absurd (eq_of_beq hab).symm hne) (fun _ => ?_)
  refine wpAny_bind (wpAny_mono h (fun z s' hv => ?_) fun _ _ x => x)
  obtain ⟨r, rfl, q⟩ := hv
  exact wpAny_truthy_bool q
theorem eqBool_right {a : Addr} {v : Value} {Q : Bool → Shared → Prop} (hne : v ≠ .ref a) (h : wpAny (model prog w) A (richCompare .Eq v (.ref a)) (fun z s' => ∃ r, z = .bool r ∧ Q r s') E s) : wpAny (model prog w) A (eqBool v (.ref a)) Q E s := by
  have h2 : wpAny (model prog w) A (richCompare .Eq v (.ref a) >>= truthOfDropped) Q E s := by
    refine wpAny_bind (wpAny_mono h (fun z s' hv => ?_) fun _ _ x => x)
    obtain ⟨r, rfl, q⟩ := hv
    exact wpAny_truthy_bool q
  unfold eqBool
  refine wpAny_holding ?_
  refine wpAny_ite_split (fun hab => absurd (eq_of_beq hab) hne) (fun _ => ?_)
  cases v <;> exact h2
/-- the left one declines, then the own == of the right one -/
theorem rc_right_own {u : Value} {T id : String} {Q : Value → Shared → Prop} (hu : A.units < cLine) (hT : s.TypeIs u T) (X : K.In s.heap) (I : PySem.W.InstAt s.heap b ob C od) (hsub : PySem.W.subIn K (.ref C) (.type T) = some false)
    (h1 : Slot T (cmpInfo .Eq).2.1 id) (hc : ∀ Q' : Value → Shared → Prop, Q' .notImplemented s → wpAny (model prog w) A (call (.builtin id) [u, .ref b]) Q' E s)
    (hs : PySem.W.findIn K (.ref C) "__eq__" = some (some (.ref f))) (hf : PySem.W.isFn K (.ref f) = true)
    (h : wpAny (model prog w) A (call (.ref f) [.ref b, u]) (PySem.W.CmpBack Q) E s) : wpAny (model prog w) A (richCompare .Eq u (.ref b)) Q E s := by
  have one : wpAny (model prog w) A (tryCompare (.ref b) (cmpInfo .Eq).2.2 u) (fun r s' => ∃ v, r = some v ∧ Q v s') E s := by
    unfold tryCompare
    refine wpAny_bind (PySem.W.ifBound_K X I hs hf (wpAny_mono h (fun v s' hv => ?_) fun _ _ e => e))
    cases v <;> first | exact hv.elim | exact wpAny_pure ⟨_, rfl, hv⟩
  have hne : ((Value.type T) != (Value.ref C)) = true := by simp
  unfold richCompare
  simp only [hT.oneThing_none]
  refine wpAny_holding (wpAny_bind (wpAny_cRoomFor hu ?_))
  refine wpAny_bind (wpAny_typeOf hT (wpAny_bind (I.type.here ?_)))
  simp only [hne, if_true]
  refine wpAny_bind ((PySem.W.looks_subIn X hsub).here ?_)
  simp only [Bool.false_eq_true, if_false, Bool.not_false, if_true]
  refine wpAny_bind (wpAny_tryCompare_declines hT h1 (hc _ ⟨rfl, ?_⟩))
  refine wpAny_bind (wpAny_mono one (fun r s' z => ?_) fun _ _ e => e)
  obtain ⟨v, rfl, hq⟩ := z
  exact wpAny_pure hq
/-! the left one declines -/
theorem int_dec_own {C dx b : Addr} {i : Int} {t : Tok} (hb : s.heap.get? b = some (PySem.W.instObj C dx)) (Q : Value → Shared → Prop) (h : Q .notImplemented s) : wpAny (model prog w) A (call (.builtin "int.__eq__") [.int i t, .ref b]) Q E s := by
  refine call_here F.slot_int_eq (typeIs_int s i t) F.entry_int_eq (F.args_int_eq_2 _ _) ?_
  obtain ⟨hp, g, d, tk, os⟩ := s
  wp_walk using wpAny_loadPart' hb, wpAny_load hb
  exact h
theorem str_dec_own {C dx b : Addr} {i : Str} {t : Tok} (hb : s.heap.get? b = some (PySem.W.instObj C dx)) (Q : Value → Shared → Prop) (h : Q .notImplemented s) : wpAny (model prog w) A (call (.builtin "str.__eq__") [.str i t, .ref b]) Q E s := by
  refine call_here F.slot_str_eq (typeIs_str s i t) F.entry_str_eq (F.args_str_eq_2 _ _) ?_
  obtain ⟨hp, g, d, tk, os⟩ := s
  wp_walk using wpAny_loadPart' hb, wpAny_load hb
  exact h
theorem none_dec_own {b : Addr} (Q : Value → Shared → Prop) (h : Q .notImplemented s) : wpAny (model prog w) A (call (.builtin "NoneType.__eq__") [.none, .ref b]) Q E s :=
  call_gives F.slot_NoneType_eq rfl F.entry_NoneType_eq (F.args_NoneType_eq_2 _ _) (NoneType___eq___none_ref_0 b) h
theorem list_dec_own {l : Addr} {items : Array Value} (X : K.In s.heap) (I : PySem.W.InstAt s.heap b ob C od) (hsub : PySem.W.subIn K (.ref C) (.type "list") = some false) (hl : s.heap.IsList l items) (Q : Value → Shared → Prop) (h : Q .notImplemented s) :
    wpAny (model prog w) A (call (.builtin "list.__eq__") [.ref l, .ref b]) Q E s := by
  obtain ⟨⟨cls, dd, data, sl⟩, ho, hc, n, hd⟩ := id hl
  simp only at hc hd
  subst hc hd
  refine call_here F.slot_list_eq ⟨_, ho, rfl⟩ F.entry_list_eq (F.args_list_eq_2 _ _) ?_
  have hI : ∀ {Q : Bool → Shared → Prop} {E : Value → Shared → Prop}, Q false s → wpAny (model prog w) A.in1 (isInstance (.ref b) (.type "list")) Q E s := fun h => by
    have is1 : PySem.W.Looks (model prog w) s.heap (isInstance (.ref b) (.type "list")) false := by
      unfold isInstance
      exact I.type.andThen (PySem.W.looks_subIn X hsub)
    exact is1.here h
  obtain ⟨hp, g, d, tk, os⟩ := s
  wp_walk using wpAny_loadPart' ho, hI
  exact h
theorem tup_dec_own {l : Addr} {items : Array Value} (X : K.In s.heap) (I : PySem.W.InstAt s.heap b ob C od) (hsub : PySem.W.subIn K (.ref C) (.type "tuple") = some false) (hl : s.heap.IsTuple l items) (Q : Value → Shared → Prop) (h : Q .notImplemented s) :
    wpAny (model prog w) A (call (.builtin "tuple.__eq__") [.ref l, .ref b]) Q E s := by
  obtain ⟨⟨cls, dd, data, sl⟩, ho, hc, n, hd⟩ := id hl
  simp only at hc hd
  subst hc hd
  refine call_here F.slot_tuple_eq ⟨_, ho, rfl⟩ F.entry_tuple_eq (F.args_tuple_eq_2 _ _) ?_
  have hI : ∀ {Q : Bool → Shared → Prop} {E : Value → Shared → Prop}, Q false s → wpAny (model prog w) A.in1 (isInstance (.ref b) (.type "tuple")) Q E s := fun h => by
    have is1 : PySem.W.Looks (model prog w) s.heap (isInstance (.ref b) (.type "tuple")) false := by
      unfold isInstance
      exact I.type.andThen (PySem.W.looks_subIn X hsub)
    exact is1.here h
  obtain ⟨hp, g, d, tk, os⟩ := s
  wp_walk using wpAny_loadPart' ho, hI
  exact h
end
/-! ### in, list.count: each comparison may change the heap -/
section
variable {prog : Program} {w : World} {A : Around} {R : Result → Shared → Prop}
/-- at each turn the list is read anew: N items, the i-th compared with x -/
def HasI (prog : Program) (w : World) (A : Around) (E : Value → Shared → Prop) (l : Addr) (x : Value) (N : Nat) (e : Nat → Bool) (I : Nat → Shared → Prop) : Prop :=
  ∀ i s, I i s → ∃ (items : Array Value) (n : Nat), s.heap.get? l = some { cls := .type "list", data := .seq items n } ∧ items.size = N ∧
    ∀ (h1 : i < items.size), wpAny (model prog w) A.in1 (eqBool items[i] x) (fun r s' => r = e i ∧ I (i + 1) s') E s
theorem contains_loopG (l : Addr) (x : Value) (N : Nat) (e : Nat → Bool) (I : Nat → Shared → Prop) (hl : HasI prog w A (fun e s' => R (.error e) s') l x N e I)
    (fin : ∀ i s, I i s → R (.ok (.ret (.bool ((List.range N).any e)))) s) (k : Nat) :
    ∀ i : Nat, N - i = k → i ≤ N → (∀ j, j < i → e j = false) → ∀ s, I i s →
      wpAny (model prog w) A.in1 (Builtin.«list.__contains__.loop» ⟨[.ref l, x, rawInt i], []⟩) (FinOf prog w A R) (fun e s' => R (.error e) s') s := by
  induction k with
  | zero =>
    intro i hk hi hf s h
    obtain ⟨items, n, hl1, hs1, _⟩ := hl _ _ h
    have hi' : i = N := by omega
    have hR := fin _ s h
    have ha : (List.range N).any e = false := by
      rw [List.any_eq_false]
      intro j hj
      rw [hf j (by rw [hi']; exact List.mem_range.mp hj)]
      exact Bool.false_ne_true
    rw [ha] at hR
    obtain ⟨hp, g, d, tk, os⟩ := s
    wp_walk using wpAny_loadPart' hl1
    have hi1 : items[((i : Nat) : Int).toNat]? = none := by simp; omega
    rw [hi1]
    wp_walk
    exact hR
  | succ k ih =>
    intro i hk hi hf s h
    obtain ⟨items, n, hl1, hs1, turn⟩ := hl _ _ h
    have hlt : i < items.size := by omega
    have ht := turn hlt
    obtain ⟨hp, g, d, tk, os⟩ := s
    wp_walk using wpAny_loadPart' hl1
    have hi1 : items[((i : Nat) : Int).toNat]? = some items[i] := by simp [hlt]
    have hc : ((i : Int) + 1) = ((i + 1 : Nat) : Int) := by omega
    rw [hi1]
    refine wpAny_bind (wpAny_mono ht (fun r s2 h2 => ?_) fun _ _ x => x)
    obtain ⟨hr, h2⟩ := h2
    subst hr
    cases hb : e i with
    | true =>
      have hR := fin _ s2 h2
      have ha : (List.range N).any e = true := by
        rw [List.any_eq_true]
        exact ⟨i, List.mem_range.mpr (by omega), hb⟩
      rw [ha] at hR
      obtain ⟨hp2, g2, d2, tk2, os2⟩ := s2
      wp_walk
      exact hR
    | false =>
      have hrec := ih (i + 1) (by omega) (by omega) (fun j hj => by
        rcases Nat.lt_succ_iff_lt_or_eq.mp hj with z | z
        · exact hf j z
        · rw [z]; exact hb) s2 h2
      obtain ⟨hp2, g2, d2, tk2, os2⟩ := s2
      wp_walk
      rw [hc]
      exact ⟨plainId_quiet plain_contains_loop _, codeAny_builtin entry_contains_loop (by
        rw [Around.under_plainId plain_contains_loop _]
        exact hrec)⟩
theorem list_containsG (l : Addr) (x : Value) (N : Nat) (e : Nat → Bool) (I : Nat → Shared → Prop) (hl : HasI prog w A (fun e s' => R (.error e) s') l x N e I)
    (fin : ∀ i s, I i s → R (.ok (.ret (.bool ((List.range N).any e)))) s) {s : Shared} (h : I 0 s) :
    wpAny (model prog w) A.in1 (Builtin.«list.__contains__» ⟨[.ref l, x], []⟩) (FinOf prog w A R) (fun e s' => R (.error e) s') s := by
  obtain ⟨items, n, hl1, hs1, _⟩ := hl _ _ h
  have hrec := contains_loopG (A := A) (R := R) l x N e I hl fin _ 0 rfl (Nat.zero_le _) (fun j hj => absurd hj (Nat.not_lt_zero _)) s h
  obtain ⟨hp, g, d, tk, os⟩ := s
  wp_walk using wpAny_loadPart' hl1
  exact ⟨plainId_quiet plain_contains_loop _, codeAny_builtin entry_contains_loop (by
    rw [Around.under_plainId plain_contains_loop _]
    exact hrec)⟩
theorem count_loopG (l : Addr) (x : Value) (N : Nat) (e : Nat → Bool) (I : Nat → Shared → Prop) (hl : HasI prog w A (fun e s' => R (.error e) s') l x N e I)
    (fin : ∀ s, I N s → R (.ok (.ret (.int ((List.range N).countP e : Nat) s.toks))) { s with toks := s.toks + 1 }) (k : Nat) :
    ∀ (i : Nat) (found : Int), N - i = k → i ≤ N → found = ((List.range i).countP e : Nat) → ∀ s, I i s →
      wpAny (model prog w) A.in1 (Builtin.«list.count.loop» ⟨[.ref l, x, rawInt i, rawInt found], []⟩) (FinOf prog w A R) (fun e s' => R (.error e) s') s := by
  induction k with
  | zero =>
    intro i found hk hi hf s h
    obtain ⟨items, n, hl1, hs1, _⟩ := hl _ _ h
    have hi' : i = N := by omega
    subst hi'
    have hR := fin s h
    rw [← hf] at hR
    obtain ⟨hp, g, d, tk, os⟩ := s
    wp_walk using wpAny_loadPart' hl1
    have hi1 : items[((i : Nat) : Int).toNat]? = none := by simp; omega
    rw [hi1]
    wp_walk
    exact hR
  | succ k ih =>
    intro i found hk hi hf s h
    obtain ⟨items, n, hl1, hs1, turn⟩ := hl _ _ h
    have hlt : i < items.size := by omega
    have ht := turn hlt
    obtain ⟨hp, g, d, tk, os⟩ := s
    wp_walk using wpAny_loadPart' hl1
    have hi1 : items[((i : Nat) : Int).toNat]? = some items[i] := by simp [hlt]
    have hc : ((i : Int) + 1) = ((i + 1 : Nat) : Int) := by omega
    rw [hi1]
    refine wpAny_bind (wpAny_mono ht (fun r s2 h2 => ?_) fun _ _ x => x)
    obtain ⟨hr, h2⟩ := h2
    subst hr
    have hcnt : (List.range (i + 1)).countP e = (List.range i).countP e + (if e i = true then 1 else 0) := by
      rw [List.range_succ, List.countP_append]
      simp [List.countP_cons]
    cases hb : e i with
    | true =>
      have hrec := ih (i + 1) (found + 1) (by omega) (by omega) (by rw [hcnt, hb, hf]; simp) s2 h2
      obtain ⟨hp2, g2, d2, tk2, os2⟩ := s2
      wp_walk
      rw [hc]
      exact ⟨plainId_quiet plain_count_loop _, codeAny_builtin entry_count_loop (by
        rw [Around.under_plainId plain_count_loop _]
        exact hrec)⟩
    | false =>
      have hrec := ih (i + 1) found (by omega) (by omega) (by rw [hcnt, hb, hf]; simp) s2 h2
      obtain ⟨hp2, g2, d2, tk2, os2⟩ := s2
      wp_walk
      rw [hc]
      exact ⟨plainId_quiet plain_count_loop _, codeAny_builtin entry_count_loop (by
        rw [Around.under_plainId plain_count_loop _]
        exact hrec)⟩
theorem list_countG (l : Addr) (x : Value) (N : Nat) (e : Nat → Bool) (I : Nat → Shared → Prop) (hl : HasI prog w A (fun e s' => R (.error e) s') l x N e I)
    (fin : ∀ s, I N s → R (.ok (.ret (.int ((List.range N).countP e : Nat) s.toks))) { s with toks := s.toks + 1 }) {s : Shared} (h : I 0 s) :
    wpAny (model prog w) A.in1 (Builtin.«list.count» ⟨[.ref l, x], []⟩) (FinOf prog w A R) (fun e s' => R (.error e) s') s := by
  obtain ⟨items, n, hl1, hs1, _⟩ := hl _ _ h
  have hrec := count_loopG (A := A) (R := R) l x N e I hl fin _ 0 0 rfl (Nat.zero_le _) (by simp) s h
  obtain ⟨hp, g, d, tk, os⟩ := s
  wp_walk using wpAny_loadPart' hl1
  exact ⟨plainId_quiet plain_count_loop _, codeAny_builtin entry_count_loop (by
    rw [Around.under_plainId plain_count_loop _]
    exact hrec)⟩
end
section
variable {prog : Program} {w : World} {A : Around} {E : Value → Shared → Prop} {s : Shared}
theorem containsOwnG {l : Addr} {x : Value} {N : Nat} {e : Nat → Bool} {I : Nat → Shared → Prop} {Q : Bool → Shared → Prop} (hl : HasI prog w A E l x N e I) (fin : ∀ i s, I i s → Q ((List.range N).any e) s) (h : I 0 s) : wpAny (model prog w) A (contains (.ref l) x) Q E s := by
  obtain ⟨items, n, ho, _, _⟩ := hl _ _ h
  refine wpAny_contains_slot ⟨_, ho, rfl⟩ F.slot_list_contains (call_here F.slot_list_contains ⟨_, ho, rfl⟩ F.entry_list_contains (F.args_list_contains_2 _ _) ?_)
  exact list_containsG (R := wants (fun v s' => wpAny (model prog w) A (truthy v) Q E s') E) l x N e I hl (fun i s' q => wpAny_truthy_bool (fin i s' q)) h
theorem inOwnG {l : Addr} {x : Value} {N : Nat} {e : Nat → Bool} {I : Nat → Shared → Prop} {Q : Value → Shared → Prop} (hl : HasI prog w A E l x N e I) (fin : ∀ i s, I i s → Q (.bool ((List.range N).any e)) s) (h : I 0 s) : wpAny (model prog w) A (compareOp .In x (.ref l)) Q E s := by
  show wpAny _ A (do return .bool (← contains (.ref l) x)) Q E s
  exact wpAny_bind (containsOwnG hl (fun i s' q => wpAny_pure (fin i s' q)) h)
theorem notInOwnG {l : Addr} {x : Value} {N : Nat} {e : Nat → Bool} {I : Nat → Shared → Prop} {Q : Value → Shared → Prop} (hl : HasI prog w A E l x N e I) (fin : ∀ i s, I i s → Q (.bool (!(List.range N).any e)) s) (h : I 0 s) : wpAny (model prog w) A (compareOp .NotIn x (.ref l)) Q E s := by
  show wpAny _ A (do return .bool (!(← contains (.ref l) x))) Q E s
  exact wpAny_bind (containsOwnG hl (fun i s' q => wpAny_pure (fin i s' q)) h)
theorem countOwnG {l : Addr} {x : Value} {N : Nat} {e : Nat → Bool} {I : Nat → Shared → Prop} {Q : Value → Shared → Prop} (hl : HasI prog w A E l x N e I) (fin : ∀ s, I N s → Q (.int ((List.range N).countP e : Nat) s.toks) { s with toks := s.toks + 1 }) (h : I 0 s) :
    wpAny (model prog w) A (call (.builtin "list.count") [.ref l, x]) Q E s := by
  obtain ⟨items, n, ho, _, _⟩ := hl _ _ h
  exact call_here F.slot_list_count ⟨_, ho, rfl⟩ F.entry_list_count (F.args_list_count_2 _ _) (list_countG (R := wants Q E) l x N e I hl fin h)
end
end Dn

/-! DnEqX: == and != by an own __eq__ with anything on the right; in, not in, list.count by it -/
namespace Dn
open PySem PySem.Spec PyProof.Rows L2 Evl
def eqTys : List String := ["NoneType", "int", "str", "list", "tuple"]
/-- the class x and the built-in types know nothing of each other -/
structure OtD (K : PySem.W.Frag) (x : Str) : Prop where
  ex : ∃ C, PySem.W.nsIn K mainGlobals x = some (some (.ref C)) ∧ ∀ t ∈ eqTys, PySem.W.subIn K (.type t) (.ref C) = some false ∧ PySem.W.subIn K (.ref C) (.type t) = some false
/-- a value of a built-in type -/
inductive Bi (K : PySem.W.Frag) (H : Hp) : V → String → Prop
  | non : Bi K H .non "NoneType"
  | int (i : Int) : Bi K H (.int i) "int"
  | str (s : Str) : Bi K H (.str s) "str"
  | lst {a : Addr} {vs : List V} : SqL K H a vs → Bi K H (.ref a) "list"
  | tup {a : Addr} {vs : List V} : SqT K H a vs → Bi K H (.ref a) "tuple"
def biN : D → Option String
  | .non => some "NoneType"
  | .int _ => some "int"
  | .str _ => some "str"
  | .lst _ => some "list"
  | .tup _ => some "tuple"
  | _ => none
theorem biN_mem {d : D} {t : String} (h : biN d = some t) : t ∈ eqTys := by
  cases d <;> simp [biN] at h <;> subst h <;> decide
theorem biN_snd {K : PySem.W.Frag} {F B H : Hp} {ρ : List Addr} {M : Mem} (m : MR K F B ρ M H) {d : D} {v : V} {t : String} (r : Rp K B ρ d v) (h : biN d = some t) : Bi K H v t := by
  cases r with
  | non => cases h; exact .non
  | int i => cases h; exact .int i
  | str s => cases h; exact .str s
  | lst e q => cases h; exact .lst (sq_of (m.ex _ _ e))
  | tup e q z => cases h; exact .tup (ex_t m.ex e)
  | _ => simp [biN] at h
section
variable {X : Cx} {pins : List (Addr × Obj)} {σ : L2.St} {H : Hp} {s : Shared}
theorem Bi.typeIs (I : Inv X pins σ H s) {y : V} {v : Value} {t : String} (b : Bi X.K H y t) (ry : RelV y v) : s.TypeIs v t ∧ PySem.W.Looks (model X.prog X.w) s.heap (typeOf v) (.type t) := by
  cases b with
  | non => cases ry; exact ⟨rfl, .of_pure rfl⟩
  | int i => obtain ⟨u, rfl⟩ := ry; exact ⟨typeIs_int _ _ _, .of_pure rfl⟩
  | str i => obtain ⟨u, rfl⟩ := ry; exact ⟨typeIs_str _ _ _, .of_pure rfl⟩
  | lst hq =>
    cases ry
    obtain ⟨its, rv, ⟨o, n, e, c, _, d⟩, _⟩ := I.list hq
    exact ⟨⟨o, e, c⟩, c ▸ (PySem.W.Looks.ld e).andThen .now⟩
  | tup hq =>
    cases ry
    obtain ⟨its, rv, ⟨o, e, c, n, d⟩, _⟩ := I.tuple hq
    exact ⟨⟨o, e, c⟩, c ▸ (PySem.W.Looks.ld e).andThen .now⟩
theorem run_eqX {A : Around} {k : Nat} {g : Addr} {fd : FuncData} {ps : List Str} {sp : Sp} {x y : V} {u v : Value} {Q : VK} (F : FnOk X.prog X.w X.K X.mg X.base CX0 k g fd ps sp) (hb : Binds X.K fd ps []) (hr : Room k A) (hA : A.frames = X.A.frames)
    (I : Inv X pins σ H s) (rx : RelV x u) (ry : RelV y v) (hsp : sp [x, y] H Q E0) : wpAny (model X.prog X.w) A (call (.ref g) [u, v]) (EP X pins σ Q) X.xe s := by
  have e0 : Env0 X.prog X.w X.K X.mg X.base A X.stack s H := let e := I.env0; ⟨by rw [hA]; exact e.frames, e.mod, e.bs, e.bsz, e.funs, e.frf, e.hok, e.bare⟩
  have hl := F.len _ _ _ _ hsp
  refine wpAny_call (codeAny_mono (F.run A X.stack s H ⟨[u, v], []⟩ [u, v] [x, y] _ E0 hr e0 (by simpa using hb s [u, v] I.kIn (by simpa using hl)) (.cons rx (.cons ry .nil)) hsp) fun r s' hq => ?_)
  cases r with
  | error e => exact False.elim hq
  | ok fl =>
    cases fl with
    | ret w => exact I.after hq
    | next => exact False.elim hq
    | brk => exact False.elim hq
    | cont => exact False.elim hq
/-- x == y asks the own == of the class at C, with p, q -/
inductive Side (K : PySem.W.Frag) (C : Addr) (H : Hp) : V → V → V → V → Prop
  | both {a dx c dy : Addr} {fs gs : List (Str × V)} : H a = some (.ins C dx fs) → H c = some (.ins C dy gs) → Side K C H (.ref a) (.ref c) (.ref a) (.ref c)
  | left {a dx : Addr} {fs : List (Str × V)} {y : V} {t : String} : H a = some (.ins C dx fs) → Bi K H y t → PySem.W.subIn K (.type t) (.ref C) = some false → Side K C H (.ref a) y (.ref a) y
  | right {c dy : Addr} {fs : List (Str × V)} {x : V} {t : String} : H c = some (.ins C dy fs) → Bi K H x t → PySem.W.subIn K (.ref C) (.type t) = some false → Side K C H x (.ref c) (.ref c) x
theorem ins_here (I : Inv X pins σ H s) {a C dx : Addr} {fs : List (Str × V)} (h : H a = some (.ins C dx fs)) : ∃ od, PySem.W.InstAt s.heap a (PySem.W.instObj C dx) C od := by
  obtain ⟨mA, J, _⟩ := ins_get I.hok h
  obtain ⟨od, J, _⟩ := J.look
  exact ⟨_, J⟩
/-- how the answer comes back -/
def Bk (X : Cx) (pins : List (Addr × Obj)) (σ : L2.St) (Qb : Bool → Hp → Prop) (z : Value) (s' : Shared) : Prop := ∃ r, z = .bool r ∧ ∃ H', Inv X pins σ H' s' ∧ Qb r H'
theorem bk_of {Qb : Bool → Hp → Prop} {v : Value} {s' : Shared} (h : EP X pins σ (fun z H' => ∃ r, z = .bl r ∧ Qb r H') v s') : PySem.W.CmpBack (Bk X pins σ Qb) v s' := by
  obtain ⟨z, H', I', rz, r, rfl, q⟩ := h
  cases rz
  exact ⟨r, rfl, H', I', q⟩
theorem rc_side {A : Around} {k : Nat} {C g : Addr} {fd : FuncData} {ps : List Str} {sp : Sp} {x y p q : V} {u v : Value} {Qb : Bool → Hp → Prop} (Fo : FnOk X.prog X.w X.K X.mg X.base CX0 k g fd ps sp) (hs : PySem.W.findIn X.K (.ref C) "__eq__" = some (some (.ref g))) (hf : PySem.W.isFn X.K (.ref g) = true)
    (hb : Binds X.K fd ps []) (hr : Room k A) (hA : A.frames = X.A.frames) (I : Inv X pins σ H s) (rx : RelV x u) (ry : RelV y v) (sd : Side X.K C H x y p q) (hsp : sp [p, q] H (fun z H' => ∃ r, z = .bl r ∧ Qb r H') E0) :
    wpAny (model X.prog X.w) A (richCompare .Eq u v) (Bk X pins σ Qb) X.xe s := by
  obtain ⟨m, hF⟩ := I.fr
  cases sd with
  | both ha hc =>
    cases rx
    cases ry
    obtain ⟨od, J⟩ := ins_here I ha
    obtain ⟨od', J'⟩ := ins_here I hc
    exact PySem.W.cmp_K (op := .Eq) (tb := .ref C) hr.units0 hF I.ok.mod.kin J J'.type (by simp [PySem.W.notFirst]) hs hf (wpAny_mono (run_eqX Fo hb hr hA I (x := .ref _) (y := .ref _) rfl rfl hsp) (fun v s' hv => bk_of hv) fun _ _ z => z)
  | @left a dx fs y t ha hy ht =>
    cases rx
    obtain ⟨od, J⟩ := ins_here I ha
    exact PySem.W.cmp_K (op := .Eq) (tb := .type t) hr.units0 hF I.ok.mod.kin J (hy.typeIs I ry).2 (by simp [PySem.W.notFirst, ht]) hs hf (wpAny_mono (run_eqX Fo hb hr hA I (x := .ref _) rfl ry hsp) (fun v s' hv => bk_of hv) fun _ _ z => z)
  | @right c dy fs x t hc hx ht =>
    cases ry
    obtain ⟨od, J⟩ := ins_here I hc
    have go := wpAny_mono (run_eqX Fo hb hr hA I (x := .ref c) (u := .ref c) rfl rx hsp) (fun v s' (hv : EP X pins σ _ v s') => bk_of hv) fun _ _ z => z
    have hT := (hx.typeIs I rx).1
    cases hx with
    | non =>
      cases rx
      exact rc_right_own hr.units0 hT I.kIn J ht PySem.F.slot_NoneType_eq (fun Q' h => none_dec_own Q' h) hs hf go
    | int i =>
      obtain ⟨t, rfl⟩ := rx
      exact rc_right_own hr.units0 hT I.kIn J ht PySem.F.slot_int_eq (fun Q' h => int_dec_own J.at_ Q' h) hs hf go
    | str i =>
      obtain ⟨t, rfl⟩ := rx
      exact rc_right_own hr.units0 hT I.kIn J ht PySem.F.slot_str_eq (fun Q' h => str_dec_own J.at_ Q' h) hs hf go
    | lst hq =>
      cases rx
      obtain ⟨its, rv, hl, _⟩ := I.list hq
      exact rc_right_own hr.units0 hT I.kIn J ht PySem.F.slot_list_eq (fun Q' h => list_dec_own I.kIn J ht hl.isList Q' h) hs hf go
    | tup hq =>
      cases rx
      obtain ⟨its, rv, hl, _⟩ := I.tuple hq
      exact rc_right_own hr.units0 hT I.kIn J ht PySem.F.slot_tuple_eq (fun Q' h => tup_dec_own I.kIn J ht hl Q' h) hs hf go
end
end Dn

/-! DnEqY: the plain functions and their rules -/
namespace Dn
open PySem PySem.Spec PyProof.Rows L2 Evl
theorem dp_val {K : PySem.W.Frag} {H : Hp} {v : V} {p : PyData} (h : Dp K H v p) : ∃ u, RelV v u := by
  cases h with
  | non => exact ⟨.none, rfl⟩
  | bl b => exact ⟨.bool b, rfl⟩
  | int i => exact ⟨.int i 0, 0, rfl⟩
  | str s => exact ⟨.str s 0, 0, rfl⟩
  | lst _ _ => exact ⟨.ref _, rfl⟩
  | tup _ _ => exact ⟨.ref _, rfl⟩
def toPf : List (Str × D) → Bool
  | [] => true
  | (_, d) :: fs => (toP d).isSome && toPf fs
section
variable {X : Cx} {pins : List (Addr × Obj)} {σ : L2.St} {H : Hp} {s : Shared} {F B : Hp} {ρ : List Addr} {M : Mem}
theorem toP_one (I : Inv X pins σ H s) (m : MR X.K F B ρ M H) {d e : D} {v : V} (r1 : Rp X.K B ρ d v) (r2 : Rp X.K B ρ e v) (h1 : (toP d).isSome = true) (h2 : (toP e).isSome = true) : d = e := by
  obtain ⟨p, hp⟩ := Option.isSome_iff_exists.mp h1
  obtain ⟨q, hq⟩ := Option.isSome_iff_exists.mp h2
  have d1 := toP_snd m.ex r1 hp
  have d2 := toP_snd m.ex r2 hq
  obtain ⟨u, ru⟩ := dp_val d1
  obtain ⟨as, q1⟩ := Dp.reads I _ _ _ d1 ru
  obtain ⟨bs, q2⟩ := Dp.reads I _ _ _ d2 ru
  have e := (q1.unique _ _ q2).1
  subst e
  exact toP_inj hp hq
theorem toPf_one (I : Inv X pins σ H s) (m : MR X.K F B ρ M H) : ∀ {fs gs : List (Str × D)} {us : List (Str × V)}, Rpf X.K B ρ fs us → Rpf X.K B ρ gs us → toPf fs = true → toPf gs = true → fs = gs
  | _, _, _, .nil, .nil, _, _ => rfl
  | _, _, _, .cons r1 t1, .cons r2 t2, h1, h2 => by
    simp only [toPf, Bool.and_eq_true] at h1 h2
    rw [toP_one I m r1 r2 h1.1 h2.1, toPf_one I m t1 t2 h1.2 h2.2]
/-- how d == e is asked: by p == q -/
def sideD (x : Str) (d e : D) : Option (D × D) := match d with
  | .ins y fs => if y = x then match e with
    | .ins z gs => if z = x ∧ toPf fs = true ∧ toPf gs = true then some (d, e) else none
    | _ => if (biN e).isSome = true then some (d, e) else none
    else none
  | _ => match e with
    | .ins z gs => if z = x ∧ (biN d).isSome = true then some (e, d) else none
    | _ => none
/-- and if they are the same object, they are the same data -/
theorem sideD_snd {x : Str} {C : Addr} (O : OtD X.K x) (hC : PySem.W.nsIn X.K mainGlobals x = some (some (.ref C))) (I : Inv X pins σ H s) (m : MR X.K F B ρ M H) {d e p q : D} {v y : V} {a b : Value} (rd : Rp X.K B ρ d v) (re : Rp X.K B ρ e y) (ra : RelV v a) (rb : RelV y b) (h : sideD x d e = some (p, q)) :
    (∃ v1 v2, Side X.K C H v y v1 v2 ∧ Rp X.K B ρ p v1 ∧ Rp X.K B ρ q v2) ∧ (a = b → d = e) ∧ (a ≠ b → (∃ c, a = .ref c) ∨ ∃ c, b = .ref c) := by
  obtain ⟨C', hC', Ot⟩ := O.ex
  rw [hC] at hC'
  cases hC'
  have far : ∀ {fs : List (Str × D)} {g : D} {t : String} {v y : V} {a : Value}, Rp X.K B ρ (.ins x fs) v → Rp X.K B ρ g y → biN g = some t → RelV v a → RelV y a → False := by
    intro fs g t v y a r1 r2 ht k1 k2
    cases r1 with
    | ins hc e r =>
      rw [hC] at hc
      cases hc
      cases k1
      obtain ⟨od, J⟩ := ins_here I (m.ex _ _ e)
      have hb := biN_snd m r2 ht
      obtain ⟨o, ho, hc⟩ := (show ∃ o, s.heap.get? _ = some o ∧ o.cls = .type t from (hb.typeIs I k2).1)
      rw [J.at_] at ho
      cases ho
      cases hc
  unfold sideD at h
  split at h
  · next y0 fs =>
    split at h
    · next hy =>
      subst hy
      split at h
      · next z gs =>
        split at h
        · next hz =>
          obtain ⟨rfl, h1, h2⟩ := hz
          cases h
          cases rd with
          | @ins a1 C1 dx1 _ us _ c1 e1 r1 =>
            cases re with
            | @ins a2 C2 dx2 _ ws _ c2 e2 r2 =>
              have c1' := c1
              have c2' := c2
              rw [hC] at c1 c2
              cases c1
              cases c2
              cases ra
              cases rb
              refine ⟨⟨_, _, .both (m.ex _ _ e1) (m.ex _ _ e2), .ins c1' e1 r1, .ins c2' e2 r2⟩, fun hab => ?_, fun _ => .inl ⟨_, rfl⟩⟩
              cases hab
              rw [e1] at e2
              cases e2
              rw [toPf_one I m r1 r2 h1 h2]
        · cases h
      · next hne =>
        split at h
        · next hb =>
          cases h
          obtain ⟨t, ht⟩ := Option.isSome_iff_exists.mp hb
          have hbi := biN_snd m re ht
          have rd' := rd
          cases rd with
          | @ins a1 C1 dx1 _ us _ c1 e1 r1 =>
            rw [hC] at c1
            cases c1
            cases ra
            exact ⟨⟨_, _, .left (m.ex _ _ e1) hbi (Ot t (biN_mem ht)).1, rd', re⟩, fun hab => (far rd' re ht rfl (by rw [hab]; exact rb)).elim, fun _ => .inl ⟨_, rfl⟩⟩
        · cases h
    · cases h
  · next hne =>
    split at h
    · next z gs =>
      split at h
      · next hz =>
        obtain ⟨rfl, hb⟩ := hz
        cases h
        obtain ⟨t, ht⟩ := Option.isSome_iff_exists.mp hb
        have hbi := biN_snd m rd ht
        have re' := re
        cases re with
        | @ins a1 C1 dx1 _ us _ c1 e1 r1 =>
          rw [hC] at c1
          cases c1
          cases rb
          exact ⟨⟨_, _, .right (m.ex _ _ e1) hbi (Ot t (biN_mem ht)).2, re', rd⟩, fun hab => (far re' rd ht rfl (by rw [← hab]; exact ra)).elim, fun _ => .inr ⟨_, rfl⟩⟩
      · cases h
    · cases h
open Classical in
/-- d == e inside a list's own code: only where the memory stays, and the same is equal -/
noncomputable def eqIt (x : Str) (fn : Fn) (M : Mem) (d e : D) : Option Bool := match sideD x d e with
  | some (p, q) => match fn [p, q] M with
    | .ok (.bl r) M' => if M' = M ∧ (d = e → r = true) then some r else none
    | _ => none
  | none => none
theorem eqIt_snd {A : Around} {k : Nat} {x : Str} {fn : Fn} (G : SpD X.prog X.w X.K X.mg X.base k x "__eq__" 2 fn) (O : OtD X.K x) (hr : Room k A) (hA : A.frames = X.A.frames) (I : Inv X pins σ H s) (m : MR X.K F B ρ M H)
    {d e : D} {v y : V} {a b : Value} {r : Bool} (rd : Rp X.K B ρ d v) (re : Rp X.K B ρ e y) (ra : RelV v a) (rb : RelV y b) (h : eqIt x fn M d e = some r) :
    wpAny (model X.prog X.w) A (eqBool a b) (fun z s' => z = r ∧ ∃ B' ρ' H', Le B ρ B' ρ' ∧ MR X.K F B' ρ' M H' ∧ Inv X pins σ H' s') X.xe s := by
  obtain ⟨C, g, fd, ps, hC, hf, hi, Fo, hb⟩ := G.ex
  unfold eqIt at h
  split at h
  · next p q hsd =>
    split at h
    · next r0 M' hfn =>
      split at h
      · next hc =>
        obtain ⟨hM, hsame⟩ := hc
        subst hM
        cases h
        obtain ⟨⟨v1, v2, sd, rp, rq⟩, hs, href⟩ := sideD_snd O hC I m rd re ra rb hsd
        by_cases hab : a = b
        · subst hab
          exact SeqAt.EqAt.same (A := A) (s := s) a X.prog X.w X.xe _ ⟨(hsame (hs rfl)).symm, B, ρ, H, Le.refl _ _, m, I⟩
        · have go : wpAny (model X.prog X.w) A (richCompare .Eq a b) (fun z s' => ∃ r', z = .bool r' ∧ r' = r ∧ ∃ B' ρ' H', Le B ρ B' ρ' ∧ MR X.K F B' ρ' M' H' ∧ Inv X pins σ H' s') X.xe s := by
            refine wpAny_mono (rc_side Fo hf hi hb hr hA I ra rb sd (Qb := fun r' H' => r' = r ∧ ∃ B' ρ', Le B ρ B' ρ' ∧ MR X.K F B' ρ' M' H') ?_) (fun z s' hz => ?_) fun _ _ z => z
            · refine ⟨fun _ _ _ => True, [p, q], F, B, ρ, M', rfl, .cons rp (.cons rq .nil), m, ?_⟩
              rw [hfn]
              intro B' ρ' H' l m' v rv
              cases rv
              exact ⟨r, rfl, rfl, B', ρ', l, m'⟩
            · obtain ⟨r', rfl, H', I', e1, B', ρ', l, m'⟩ := hz
              exact ⟨r', rfl, e1, B', ρ', H', l, m', I'⟩
          rcases href hab with ⟨c, rfl⟩ | ⟨c, rfl⟩
          · exact eqBool_left (fun z => hab z.symm) go
          · exact eqBool_right hab go
      · cases h
    · cases h
  · cases h
noncomputable def eqAll (x : Str) (fn : Fn) (M : Mem) (e : D) : List D → Option (List Bool)
  | [] => some []
  | d :: ds => (eqIt x fn M d e).bind fun b => (eqAll x fn M e ds).map (b :: ·)
theorem eqAll_at {x : Str} {fn : Fn} {M : Mem} {e : D} : ∀ {ds : List D} {bs : List Bool}, eqAll x fn M e ds = some bs → bs.length = ds.length ∧ ∀ (i : Nat) (d : D), ds[i]? = some d → eqIt x fn M d e = some (bs.getD i false)
  | [], bs, h => by cases h; exact ⟨rfl, fun i d hd => by simp at hd⟩
  | d :: ds, bs, h => by
    simp only [eqAll, Option.bind_eq_some_iff, Option.map_eq_some_iff] at h
    obtain ⟨b, h1, bs', h2, rfl⟩ := h
    obtain ⟨l, q⟩ := eqAll_at h2
    refine ⟨by simp [l], fun i d' hd => ?_⟩
    cases i with
    | zero => simp at hd; subst hd; simpa using h1
    | succ i => simpa using q i d' (by simpa using hd)
theorem any_getD (bs : List Bool) : (List.range bs.length).any (fun i => bs.getD i false) = bs.any id := by
  rw [Bool.eq_iff_iff, List.any_eq_true, List.any_eq_true]
  constructor
  · rintro ⟨i, hi, h⟩
    have hl := List.mem_range.mp hi
    refine ⟨bs[i], List.getElem_mem hl, ?_⟩
    rw [List.getD_eq_getElem?_getD, List.getElem?_eq_getElem hl] at h
    simpa using h
  · rintro ⟨b, hb, h⟩
    obtain ⟨i, hl, rfl⟩ := List.getElem_of_mem hb
    refine ⟨i, List.mem_range.mpr hl, ?_⟩
    rw [List.getD_eq_getElem?_getD, List.getElem?_eq_getElem hl]
    simpa using h
theorem countP_getD : ∀ bs : List Bool, (List.range bs.length).countP (fun i => bs.getD i false) = bs.countP id
  | [] => rfl
  | b :: bs => by
    rw [List.length_cons, List.range_succ_eq_map, List.countP_cons, List.countP_map, List.countP_cons]
    have : ((fun i => (b :: bs).getD i false) ∘ Nat.succ) = fun i => bs.getD i false := by funext i; simp
    rw [this, countP_getD bs]
    simp
/-- the items are compared one by one -/
theorem hasI {k : Nat} {x : Str} {fn : Fn} {l : Addr} {vs : List V} {ds : List D} {e : D} {y : V} {b : Value} {bs : List Bool} (G : SpD X.prog X.w X.K X.mg X.base k x "__eq__" 2 fn) (O : OtD X.K x) (hr : Room (k + 1) X.A)
    (hl : B l = some (.lst vs)) (rv : Rps X.K B ρ ds vs) (re : Rp X.K B ρ e y) (rb : RelV y b) (h : eqAll x fn M e ds = some bs) :
    HasI X.prog X.w X.A X.xe l b bs.length (fun i => bs.getD i false) (fun _ s' => ∃ B' ρ' H', Le B ρ B' ρ' ∧ MR X.K F B' ρ' M H' ∧ Inv X pins σ H' s') := by
  intro i s' ⟨B1, ρ1, H1, l1, m1, I1⟩
  obtain ⟨hlen, hat⟩ := eqAll_at h
  obtain ⟨z, its, n, r, e0⟩ := I1.hok l _ (m1.ex _ _ (l1.1 _ _ hl))
  have hsz : its.toArray.size = bs.length := by rw [List.size_toArray, ← r.length, hlen, rv.len]
  refine ⟨its.toArray, n, e0, hsz, fun h1 => ?_⟩
  have hi : i < its.length := by simpa using h1
  have hiv : i < vs.length := by rw [r.length]; exact hi
  obtain ⟨u, hu, ru⟩ := r.get (List.getElem?_eq_getElem hiv)
  obtain ⟨d, hd, rd⟩ := rv.getV (List.getElem?_eq_getElem hiv)
  rw [List.getElem?_eq_getElem hi] at hu
  have eu : its.toArray[i] = u := by simpa using hu
  rw [eu]
  refine wpAny_mono (eqIt_snd (F := F) (M := M) G O hr.in1 rfl I1 m1 (rd.mono l1) (re.mono l1) ru rb (hat i d hd)) (fun z' s2 hz => ?_) fun _ _ z => z
  obtain ⟨e1, B2, ρ2, H2, l2, m2, I2⟩ := hz
  exact ⟨e1, B2, ρ2, H2, l1.trans l2, m2, I2⟩
end
end Dn

/-! DnEqZ: the rules -/
namespace Dn
open PySem PySem.Spec PyProof.Rows L2 Evl
def isIns (x : Str) : D → Bool
  | .ins y _ => decide (y = x)
  | _ => false
def eqFits (x : Str) (d e : D) : Bool := isIns x d && (isIns x e || (biN e).isSome)
section
variable {X : Cx} {W : WX} {e1 e2 o e : Expr} {f g : XE} {fa : XA} {pos apos cpos : Pos}
/-- what the right one may be -/
def Oth (K : PySem.W.Frag) (C : Addr) (H : Hp) (y : V) : Prop := (∃ c dy gs, y = .ref c ∧ H c = some (.ins C dy gs)) ∨ ∃ t, Bi K H y t ∧ PySem.W.subIn K (.type t) (.ref C) = some false
def rEqX (K : PySem.W.Frag) (neg : Bool) (C : Addr) (sp : Sp) : R2 := fun x y H Q => ∃ (a dx : Addr) (fs : List (Str × V)), x = .ref a ∧ H a = some (.ins C dx fs) ∧ Oth K C H y ∧ sp [x, y] H (fun v H' => ∃ r, v = .bl r ∧ Q (.bl (if neg then !r else r)) H') E0
theorem op_eqX {k : Nat} {C g : Addr} {fd : FuncData} {ps : List Str} {sp : Sp} (F : FnOk X.prog X.w X.K X.mg X.base CX0 k g fd ps sp) (hs : PySem.W.findIn X.K (.ref C) "__eq__" = some (some (.ref g))) (hf : PySem.W.isFn X.K (.ref g) = true) (hb : Binds X.K fd ps []) (hr : Room k X.A) :
    OpR X (compareOp .Eq) (rEqX X.K false C sp) := by
  intro pins s σ H x y v u Q I rx ry h
  obtain ⟨a, dx, fs, rfl, ha, hy, hsp⟩ := h
  cases rx
  have sd : Side X.K C H (.ref a) y (.ref a) y := by
    rcases hy with ⟨c, dy, gs, rfl, hc⟩ | ⟨t, hb, ht⟩
    · exact .both ha hc
    · exact .left ha hb ht
  refine PySem.W.cmp_ofEq (wpAny_mono (rc_side F hs hf hb hr rfl I (x := .ref a) rfl ry sd (Qb := fun r H' => Q (.bl r) H') (by simpa using hsp)) (fun z s' hz => ?_) fun _ _ z => z)
  obtain ⟨r, rfl, H', I', q⟩ := hz
  exact ⟨.bl r, H', I', rfl, q⟩
theorem op_neX {k : Nat} {C g : Addr} {fd : FuncData} {ps : List Str} {sp : Sp} (F : FnOk X.prog X.w X.K X.mg X.base CX0 k g fd ps sp) (hs : PySem.W.findIn X.K (.ref C) "__eq__" = some (some (.ref g))) (hf : PySem.W.isFn X.K (.ref g) = true) (hb : Binds X.K fd ps [])
    (hne : PySem.W.findIn X.K (.ref C) "__ne__" = some (some (.builtin "object.__ne__"))) (hob : PySem.W.subIn X.K (.ref C) (.type "object") = some true) (hr : Room (k + 1) X.A) : OpR X (compareOp .NotEq) (rEqX X.K true C sp) := by
  intro pins s σ H x y v u Q I rx ry h
  obtain ⟨a, dx, fs, rfl, ha, hy, hsp⟩ := h
  cases rx
  obtain ⟨od, J⟩ := ins_here I ha
  obtain ⟨m, hF⟩ := I.fr
  have go := run_eqX F hb hr.in1 rfl I (x := .ref a) (u := .ref a) rfl ry hsp
  have fin : ∀ {v : Value} {s' : Shared}, EP X pins σ (fun v H' => ∃ r, v = .bl r ∧ Q (.bl (if true then !r else r)) H') v s' → ∃ r, v = .bool r ∧ EP X pins σ Q (.bool (!r)) s' := by
    intro v s' hv
    obtain ⟨z, H', I', rz, r, rfl, q⟩ := hv
    cases rz
    exact ⟨r, rfl, .bl (!r), H', I', rfl, q⟩
  rcases hy with ⟨c, dy, gs, rfl, hc⟩ | ⟨t, hbi, ht⟩
  · cases ry
    obtain ⟨od', J'⟩ := ins_here I hc
    exact ne_own (tb := .ref C) (by have := hr.un; omega) hF I.ok.mod.kin J J'.type (by simp [PySem.W.notFirst]) hne hob hs hf (wpAny_mono go (fun v s' hv => fin hv) fun _ _ z => z)
  · exact ne_own (tb := .type t) (by have := hr.un; omega) hF I.ok.mod.kin J (hbi.typeIs I ry).2 (by simp [PySem.W.notFirst, ht]) hne hob hs hf (wpAny_mono go (fun v s' hv => fin hv) fun _ _ z => z)
def xEqX (neg : Bool) (x : Str) (fn : Fn) (f g : XE) : XE := fun η M => (f η M).bind fun d1 M1 => (g η M1).bind fun d2 M2 => if eqFits x d1 d2 = true then (fn [d1, d2] M2).bind (notIf neg) else .no
theorem own_sndX {neg : Bool} {x : Str} {fn : Fn} {C : Addr} (O : OtD X.K x) (hC : PySem.W.nsIn X.K mainGlobals x = some (some (.ref C))) (σ : L2.St) (H : Hp) (Q : VK) (z : tE X.K X.mg W (xEqX neg x fn f g) σ H Q) :
    tOp (rEqX X.K neg C (spF X.K X.mg 2 fn)) (tE X.K X.mg W f) (tE X.K X.mg W g) σ H Q := by
  obtain ⟨C', hC', Ot⟩ := O.ex
  rw [hC] at hC'
  cases hC'
  obtain ⟨η, F, B, ρ, M, er, m, w⟩ := z
  refine ⟨η, F, B, ρ, M, er, m, w.bind fun d1 M1 B1 ρ1 H1 l1 m1 w1 v1 r1 => ?_⟩
  refine ⟨η, F, B1, ρ1, M1, er.mono l1, m1, w1.bind fun d2 M2 B2 ρ2 H2 l2 m2 w2 v2 r2 => ?_⟩
  split at w2
  · next hfit =>
    unfold eqFits at hfit
    rw [Bool.and_eq_true, Bool.or_eq_true] at hfit
    obtain ⟨h1, h2⟩ := hfit
    have r1' := r1.mono l2
    cases d1 with
    | ins y fs =>
      have hy : y = x := by simpa [isIns] using h1
      subst hy
      have r1'' := r1'
      cases r1' with
      | @ins a C1 dx1 _ us _ c1 e1 q1 =>
        rw [hC] at c1
        cases c1
        refine ⟨a, dx1, us, rfl, m2.ex _ _ e1, ?_, fun _ _ _ => True, [.ins y fs, d2], F, B2, ρ2, M2, rfl, .cons r1'' (.cons r2 .nil), m2, ?_⟩
        · rcases h2 with h2 | h2
          · cases d2 with
            | ins z gs =>
              have hz : z = y := by simpa [isIns] using h2
              subst hz
              cases r2 with
              | @ins c C2 dx2 _ ws _ c2 e2 q2 =>
                rw [hC] at c2
                cases c2
                exact .inl ⟨c, dx2, ws, rfl, m2.ex _ _ e2⟩
            | _ => simp [isIns] at h2
          · obtain ⟨t, ht⟩ := Option.isSome_iff_exists.mp h2
            exact .inr ⟨t, biN_snd m2 r2 ht, (Ot t (biN_mem ht)).1⟩
        · exact w2.bind (hU := fun _ _ _ _ => trivial) fun r0 M3 B3 ρ3 H3 l3 m3 w3 v rv => by
            unfold notIf at w3
            split at w3
            · next b =>
              cases rv
              exact ⟨b, rfl, Wp.ret w3 m3 _ (.bl _)⟩
            · exact w3.elim
    | _ => simp [isIns] at h1
  · exact w2.elim
theorem de_eqX {k : Nat} {x : Str} {fn : Fn} (G : SpD X.prog X.w X.K X.mg X.base k x "__eq__" 2 fn) (O : OtD X.K x) (hr : Room k X.A) (ha : DE X W e1 f) (hb : DE X W e2 g) (hm : behindInMarks .Eq e2 = false) : DE X W (.Compare e1 [.Eq] [e2] pos) (xEqX false x fn f g) := by
  obtain ⟨C, a, fd, ps, hC, hf, hi, Fo, hb'⟩ := G.ex
  exact PE.imp (pe_cmpR (op_eqX Fo hf hi hb' hr) ha hb hm) (own_sndX O hC)
theorem dt_eqX {k : Nat} {x : Str} {fn : Fn} (G : SpD X.prog X.w X.K X.mg X.base k x "__eq__" 2 fn) (O : OtD X.K x) (hr : Room k X.A) (ha : DE X W e1 f) (hb : DE X W e2 g) (hm : behindInMarks .Eq e2 = false) : DT X W (.Compare e1 [.Eq] [e2] pos) (xTst (xEqX false x fn f g)) := by
  obtain ⟨C, a, fd, ps, hC, hf, hi, Fo, hb'⟩ := G.ex
  exact PT.imp (pt_cmpR (op_eqX Fo hf hi hb' hr) ha hb hm) (tst_snd (own_sndX O hC))
theorem dt_neX {k : Nat} {x : Str} {fn : Fn} (G : SpD X.prog X.w X.K X.mg X.base k x "__eq__" 2 fn) (O : OtD X.K x) (N : NeD X.K x) (hr : Room (k + 1) X.A) (ha : DE X W e1 f) (hb : DE X W e2 g) (hm : behindInMarks .NotEq e2 = false) : DT X W (.Compare e1 [.NotEq] [e2] pos) (xTst (xEqX true x fn f g)) := by
  obtain ⟨C, a, fd, ps, hC, hf, hi, Fo, hb'⟩ := G.ex
  obtain ⟨C', hC', n1, n2⟩ := N
  rw [hC] at hC'
  cases hC'
  exact PT.imp (pt_cmpR (op_neX Fo hf hi hb' n1 n2 hr) ha hb hm) (tst_snd (own_sndX O hC))
/-! in, not in -/
def rInX (K : PySem.W.Frag) (neg : Bool) (x : Str) (fn : Fn) : R2 := fun xv lv H Q => ∃ (F B : Hp) (ρ : List Addr) (M : Mem) (e : D) (ds : List D) (l : Addr) (bs : List Bool) (vs : List V), lv = .ref l ∧ MR K F B ρ M H ∧ Rp K B ρ e xv ∧ B l = some (.lst vs) ∧ Rps K B ρ ds vs ∧ eqAll x fn M e ds = some bs ∧
  ∀ B' ρ' H', Le B ρ B' ρ' → MR K F B' ρ' M H' → Q (.bl (if neg then !bs.any id else bs.any id)) H'
theorem op_inX {k : Nat} {x : Str} {fn : Fn} (G : SpD X.prog X.w X.K X.mg X.base k x "__eq__" 2 fn) (O : OtD X.K x) (hr : Room (k + 1) X.A) : OpR X (compareOp .In) (rInX X.K false x fn) := by
  intro pins s σ H xv lv u v Q I rx ry h
  obtain ⟨F, B, ρ, M, e, ds, l, bs, vs, rfl, m, re, hl, rv, ha, q⟩ := h
  cases ry
  refine inOwnG (hasI (F := F) (M := M) G O hr hl rv re rx ha) (fun i s' h => ?_) ⟨B, ρ, H, Le.refl _ _, m, I⟩
  obtain ⟨B', ρ', H', l', m', I'⟩ := h
  rw [any_getD]
  exact ⟨.bl _, H', I', rfl, q _ _ _ l' m'⟩
theorem op_notInX {k : Nat} {x : Str} {fn : Fn} (G : SpD X.prog X.w X.K X.mg X.base k x "__eq__" 2 fn) (O : OtD X.K x) (hr : Room (k + 1) X.A) : OpR X (compareOp .NotIn) (rInX X.K true x fn) := by
  intro pins s σ H xv lv u v Q I rx ry h
  obtain ⟨F, B, ρ, M, e, ds, l, bs, vs, rfl, m, re, hl, rv, ha, q⟩ := h
  cases ry
  refine notInOwnG (hasI (F := F) (M := M) G O hr hl rv re rx ha) (fun i s' h => ?_) ⟨B, ρ, H, Le.refl _ _, m, I⟩
  obtain ⟨B', ρ', H', l', m', I'⟩ := h
  rw [any_getD]
  exact ⟨.bl _, H', I', rfl, q _ _ _ l' m'⟩
noncomputable def xInX (neg : Bool) (x : Str) (fn : Fn) (f g : XE) : XE := fun η M => (f η M).bind fun e M1 => (g η M1).bind fun l M2 => match l with
  | .lst ds => match eqAll x fn M2 e ds with
    | some bs => .ok (.bl (if neg then !bs.any id else bs.any id)) M2
    | none => .no
  | _ => .no
theorem in_sndX {neg : Bool} {x : Str} {fn : Fn} (σ : L2.St) (H : Hp) (Q : VK) (z : tE X.K X.mg W (xInX neg x fn f g) σ H Q) : tOp (rInX X.K neg x fn) (tE X.K X.mg W f) (tE X.K X.mg W g) σ H Q := by
  obtain ⟨η, F, B, ρ, M, er, m, w⟩ := z
  refine ⟨η, F, B, ρ, M, er, m, w.bind fun d1 M1 B1 ρ1 H1 l1 m1 w1 v1 r1 => ?_⟩
  refine ⟨η, F, B1, ρ1, M1, er.mono l1, m1, w1.bind fun d2 M2 B2 ρ2 H2 l2 m2 w2 v2 r2 => ?_⟩
  split at w2
  · next ds =>
    split at w2
    · next bs hbs =>
      cases r2 with
      | @lst a vs _ e q => exact ⟨F, B2, ρ2, M2, d1, ds, a, bs, vs, rfl, m2, r1.mono l2, e, q, hbs, fun B' ρ' H' l' m' => w2 _ _ _ l' m' _ (.bl _)⟩
    · exact w2.elim
  · exact w2.elim
theorem de_inX {k : Nat} {x : Str} {fn : Fn} (G : SpD X.prog X.w X.K X.mg X.base k x "__eq__" 2 fn) (O : OtD X.K x) (hr : Room (k + 1) X.A) (ha : DE X W e1 f) (hb : DE X W e2 g) (hm : behindInMarks .In e2 = false := by rfl) : DE X W (.Compare e1 [.In] [e2] pos) (xInX false x fn f g) :=
  PE.imp (pe_cmpR (op_inX G O hr) ha hb hm) in_sndX
theorem de_notInX {k : Nat} {x : Str} {fn : Fn} (G : SpD X.prog X.w X.K X.mg X.base k x "__eq__" 2 fn) (O : OtD X.K x) (hr : Room (k + 1) X.A) (ha : DE X W e1 f) (hb : DE X W e2 g) (hm : behindInMarks .NotIn e2 = false := by rfl) : DE X W (.Compare e1 [.NotIn] [e2] pos) (xInX true x fn f g) :=
  PE.imp (pe_cmpR (op_notInX G O hr) ha hb hm) in_sndX
theorem dt_inX {k : Nat} {x : Str} {fn : Fn} (G : SpD X.prog X.w X.K X.mg X.base k x "__eq__" 2 fn) (O : OtD X.K x) (hr : Room (k + 1) X.A) (ha : DE X W e1 f) (hb : DE X W e2 g) (hm : behindInMarks .In e2 = false := by rfl) : DT X W (.Compare e1 [.In] [e2] pos) (xTst (xInX false x fn f g)) :=
  PT.imp (pt_cmpR (op_inX G O hr) ha hb hm) (tst_snd in_sndX)
/-! list.count -/
theorem mt_countX {k : Nat} {x : Str} {fn : Fn} (G : SpD X.prog X.w X.K X.mg X.base k x "__eq__" 2 fn) (O : OtD X.K x) (hr : Room (k + 1) X.A) : MtR X "list.count" (fun lv xs H Q => ∃ (F B : Hp) (ρ : List Addr) (M : Mem) (e : D) (ds : List D) (l : Addr) (bs : List Bool) (vs : List V) (xv : V), lv = .ref l ∧ xs = [xv] ∧ MR X.K F B ρ M H ∧ Rp X.K B ρ e xv ∧ B l = some (.lst vs) ∧ Rps X.K B ρ ds vs ∧ eqAll x fn M e ds = some bs ∧
    ∀ B' ρ' H', Le B ρ B' ρ' → MR X.K F B' ρ' M H' → Q (.int (bs.countP id : Nat)) H') := by
  intro pins s σ H lv xs v us Q I rx rxs h
  obtain ⟨F, B, ρ, M, e, ds, l, bs, vs, xv, rfl, rfl, m, re, hl, rv, ha, q⟩ := h
  obtain rfl : v = Value.ref l := rx
  cases rxs with
  | cons r1 r2 =>
    cases r2
    refine countOwnG (hasI (F := F) (M := M) G O hr hl rv re r1 ha) (fun s' h => ?_) ⟨B, ρ, H, Le.refl _ _, m, I⟩
    obtain ⟨B', ρ', H', l', m', I'⟩ := h
    rw [countP_getD]
    exact ⟨.int _, H', I'.tok _, ⟨_, rfl⟩, q _ _ _ l' m'⟩
noncomputable def xCountX (x : Str) (fn : Fn) (f : XE) (fa : XA) : XE := fun η M => (f η M).bind fun d M1 => match d with
  | .lst ds => (fa η M1).bind fun es M2 => match es with
    | [e] => match eqAll x fn M2 e ds with
      | some bs => .ok (.int (bs.countP id : Nat)) M2
      | none => .no
    | _ => .no
  | _ => .no
theorem de_countX {k : Nat} {x : Str} {fn : Fn} (G : SpD X.prog X.w X.K X.mg X.base k x "__eq__" 2 fn) (O : OtD X.K x) (hr : Room (k + 1) X.A) (ho : DE X W o f) (ha : DA X W [e] fa) (hbase : attributeBase o "count" X.env (eval o X.env) = eval o X.env := by rfl)
    (hfew : ((backTo cpos (starEach [e] X.env)).all (fun x => !x.1) && (backToKw cpos (keywordEach [] X.env)).all (fun x => x.1.isSome) && decide ([e].length + ([] : List Keyword).length + (if ([] : List Keyword).isEmpty then 0 else 1) < 30)) = true := by rfl)
    (hline : (apos.endLine == cpos.line) = true := by rfl) (hs : starEach [e] X.env = (false, eval e X.env) :: starEach [] X.env := by rfl) (hplain : (backTo cpos (starEach [] X.env)).any (·.1) = false := by rfl) :
    DE X W (.Call (.Attribute o "count" apos) [e] [] cpos) (xCountX x fn f fa) :=
  PE.imp (pe_bm PySem.F.plainAttrs_list PySem.F.slot_list_count PySem.F.type_list_count (mt_countX G O hr) ho ha hbase hfew hline hs hplain) fun σ H Q z => by
    obtain ⟨η, F, B, ρ, M, er, m, w⟩ := z
    refine ⟨η, F, B, ρ, M, er, m, w.bind fun d M1 B1 ρ1 H1 l1 m1 w1 x rx => ?_⟩
    split at w1
    · next ds =>
      cases rx with
      | @lst a vs _ e0 q0 =>
        refine ⟨.inl ⟨rfl, vs, sq_of (m1.ex _ _ e0)⟩, η, F, B1, ρ1, M1, er.mono l1, m1, w1.bind fun es M2 B2 ρ2 H2 l2 m2 w2 vs2 rv => ?_⟩
        split at w2
        · next e1 =>
          split at w2
          · next bs hbs =>
            cases rv with
            | cons r1 r2 =>
              cases r2
              exact ⟨F, B2, ρ2, M2, e1, ds, a, bs, vs, _, rfl, rfl, m2, r1, l2.1 _ _ e0, q0.mono l2, hbs, fun B' ρ' H' l' m' => w2 _ _ _ l' m' _ (.int _)⟩
          · exact w2.elim
        · exact w2.elim
    · exact w1.elim
end
end Dn

/-! DnStrO: str(x) by an own __str__, repr(x) by an own __repr__; list[::-1], tuple(list) -/
namespace Dn
open PySem PySem.Spec PyProof.Rows L2 Evl
section
variable {X : Cx} {W : WX} {e o : Expr} {es : List Expr} {f g : XE} {fa : XA} {pos apos cpos : Pos}
theorem run_1 {pins : List (Addr × Obj)} {σ : L2.St} {H : Hp} {s : Shared} {A : Around} {k : Nat} {g : Addr} {fd : FuncData} {ps : List Str} {sp : Sp} {x : V} {u : Value} {Q : VK} (F : FnOk X.prog X.w X.K X.mg X.base CX0 k g fd ps sp) (hb : Binds X.K fd ps []) (hr : Room k A) (hA : A.frames = X.A.frames)
    (I : Inv X pins σ H s) (rx : RelV x u) (hsp : sp [x] H Q E0) : wpAny (model X.prog X.w) A (call (.ref g) [u]) (EP X pins σ Q) X.xe s := by
  have e0 : Env0 X.prog X.w X.K X.mg X.base A X.stack s H := let e := I.env0; ⟨by rw [hA]; exact e.frames, e.mod, e.bs, e.bsz, e.funs, e.frf, e.hok, e.bare⟩
  have hl := F.len _ _ _ _ hsp
  refine wpAny_call (codeAny_mono (F.run A X.stack s H ⟨[u], []⟩ [u] [x] _ E0 hr e0 (by simpa using hb s [u] I.kIn (by simpa using hl)) (.cons rx .nil) hsp) fun r s' hq => ?_)
  cases r with
  | error e => exact False.elim hq
  | ok fl =>
    cases fl with
    | ret w => exact I.after hq
    | next => exact False.elim hq
    | brk => exact False.elim hq
    | cont => exact False.elim hq
def rTxt (C : Addr) (sp : Sp) : List V → Hp → VK → Prop := fun xs H Q => ∃ (a dx : Addr) (fs : List (Str × V)), xs = [.ref a] ∧ H a = some (.ins C dx fs) ∧ sp [.ref a] H (fun v H' => ∃ t, v = .str t ∧ Q (.str t) H') E0
theorem txt_back {pins : List (Addr × Obj)} {σ : L2.St} {Q : VK} {v : Value} {s' : Shared} (h : EP X pins σ (fun v H' => ∃ t, v = .str t ∧ Q (.str t) H') v s') : PySem.W.StrBack (EP X pins σ Q) v s' := by
  obtain ⟨z, H', I', rz, t, rfl, q⟩ := h
  obtain ⟨k, rfl⟩ := rz
  exact ⟨.str t, H', I', ⟨k, rfl⟩, q⟩
theorem call_strO {k : Nat} {C g : Addr} {fd : FuncData} {ps : List Str} {sp : Sp} (F : FnOk X.prog X.w X.K X.mg X.base CX0 k g fd ps sp) (hs : PySem.W.findIn X.K (.ref C) "__str__" = some (some (.ref g))) (hf : PySem.W.isFn X.K (.ref g) = true) (hb : Binds X.K fd ps []) (hr : Room (k + 1 + 1) X.A) :
    CallR X (.type "str") (rTxt C sp) := by
  intro pins s σ H xs us Q I r h
  obtain ⟨a, dx, fs, rfl, ha, hsp⟩ := h
  obtain ⟨u, rfl, rx⟩ := vals1 r
  cases rx
  obtain ⟨od, J⟩ := ins_here I ha
  exact PySem.W.kso_call hr.in1.in1.units0 I.kIn J hs hf (wpAny_mono (run_1 F hb hr.in1.in1 rfl I (x := .ref a) rfl hsp) (fun v s' hv => txt_back hv) fun _ _ z => z)
theorem call_reprO {k : Nat} {C g : Addr} {fd : FuncData} {ps : List Str} {sp : Sp} (F : FnOk X.prog X.w X.K X.mg X.base CX0 k g fd ps sp) (hs : PySem.W.findIn X.K (.ref C) "__repr__" = some (some (.ref g))) (hf : PySem.W.isFn X.K (.ref g) = true) (hb : Binds X.K fd ps []) (hr : Room (k + 1) X.A) :
    CallR X (.builtin "repr") (rTxt C sp) := by
  intro pins s σ H xs us Q I r h
  obtain ⟨a, dx, fs, rfl, ha, hsp⟩ := h
  obtain ⟨u, rfl, rx⟩ := vals1 r
  cases rx
  obtain ⟨od, J⟩ := ins_here I ha
  obtain ⟨m, hF⟩ := I.fr
  exact PySem.W.repr_K hr.in1.units0 hF I.ok.mod.kin J hs hf (wpAny_mono (run_1 F hb hr.in1 rfl I (x := .ref a) rfl hsp) (fun v s' hv => txt_back hv) fun _ _ z => z)
def txtD : D → Mem → R D := fun r M => match r with
  | .str s => .ok (.str s) M
  | _ => .no
def xTxtO (x : Str) (fn : Fn) (fa : XA) : XE := fun η M => (fa η M).bind fun ds M1 => match ds with
  | [d] => if isIns x d = true then (fn [d] M1).bind txtD else .no
  | _ => .no
theorem txt_snd {x : Str} {fn : Fn} {C : Addr} (hC : PySem.W.nsIn X.K mainGlobals x = some (some (.ref C))) (σ : L2.St) (H : Hp) (Q : VK) (z : tE X.K X.mg W (xTxtO x fn fa) σ H Q) : tCB (rTxt C (spF X.K X.mg 1 fn)) (tA X.K X.mg W fa) σ H Q := by
  obtain ⟨η, F, B, ρ, M, er, m, w⟩ := z
  refine ⟨η, F, B, ρ, M, er, m, w.bind fun ds M1 B1 ρ1 H1 l1 m1 w1 vs rv => ?_⟩
  split at w1
  · next d =>
    split at w1
    · next hi =>
      cases rv with
      | cons r1 r2 =>
        cases r2
        cases d with
        | ins y fs =>
          have hy : y = x := by simpa [isIns] using hi
          subst hy
          have r1' := r1
          cases r1 with
          | @ins a C1 dx1 _ us _ c1 e1 q1 =>
            rw [hC] at c1
            cases c1
            refine ⟨a, dx1, us, rfl, m1.ex _ _ e1, fun _ _ _ => True, [.ins y fs], F, B1, ρ1, M1, rfl, .cons r1' .nil, m1, ?_⟩
            exact w1.bind (hU := fun _ _ _ _ => trivial) fun r0 M3 B3 ρ3 H3 l3 m3 w3 v rv => by
              unfold txtD at w3
              split at w3
              · next b =>
                cases rv
                exact ⟨b, rfl, Wp.ret w3 m3 _ (.str _)⟩
              · exact w3.elim
        | _ => simp [isIns] at hi
    · exact w1.elim
  · exact w1.elim
theorem de_strO {k : Nat} {x : Str} {fn : Fn} {p : Pos} (G : SpD X.prog X.w X.K X.mg X.base k x "__str__" 1 fn) (hr : Room (k + 1 + 1) X.A) (hg : Gl X "str") (hm : X.mg "str" = none) (ha : DA X W (e :: es) fa)
    (hs : starEach (e :: es) X.env = (false, eval e X.env) :: starEach es X.env := by rfl) (hp : (backTo pos (starEach es X.env)).any (·.1) = false := by rfl) : DE X W (.Call (.Name "str" p) (e :: es) [] pos) (xTxtO x fn fa) := by
  obtain ⟨C, a, fd, ps, hC, hf, hi, Fo, hb'⟩ := G.ex
  exact PE.imp (pe_callTy (call_strO Fo hf hi hb' hr) hg hm rfl ha (by decide) (by decide) hs hp) (txt_snd hC)
theorem de_reprO {k : Nat} {x : Str} {fn : Fn} {p : Pos} (G : SpD X.prog X.w X.K X.mg X.base k x "__repr__" 1 fn) (hr : Room (k + 1) X.A) (hg : Gl X "repr") (hm : X.mg "repr" = none) (ha : DA X W (e :: es) fa)
    (hs : starEach (e :: es) X.env = (false, eval e X.env) :: starEach es X.env := by rfl) (hp : (backTo pos (starEach es X.env)).any (·.1) = false := by rfl) : DE X W (.Call (.Name "repr" p) (e :: es) [] pos) (xTxtO x fn fa) := by
  obtain ⟨C, a, fd, ps, hC, hf, hi, Fo, hb'⟩ := G.ex
  exact PE.imp (pe_callB (call_reprO Fo hf hi hb' hr) hg hm rfl ha (by decide) (by decide) hs hp) (txt_snd hC)
end
end Dn

/-! DnCallG: a def is called that may only run where no repr is under way -/
namespace Dn
open PySem PySem.Spec PyProof.Rows L2 Evl
structure FnDG (P : Program) (w : World) (K : PySem.W.Frag) (mg : Str → Option Value) (base : Heap) (k : Nat) (x : Str) (n : Nat) (f : Fn) : Prop where
  ex : ∃ (a : Addr) (fd : FuncData) (ps : List Str), FnOkG P w K mg base CX0 k a fd ps (spF K mg n f) ∧ mg x = some (.ref a) ∧ PySem.W.keepIn K (.ref a) = true ∧ Binds K fd ps []
section
variable {X : Cx} {W : WX} {e : Expr} {es : List Expr} {fa : XA} {pos : Pos}
theorem run_fnG {k : Nat} {f : Addr} {fd : FuncData} {ps : List Str} {sp : Sp} {pins : List (Addr × Obj)} {σ : L2.St} {H : Hp} {s : Shared} {Q : VK} {us : List Value} {vs : List V} (F : FnOkG X.prog X.w X.K X.mg X.base CX0 k f fd ps sp) (hgu : X.A.guards = some []) (hr : Room k X.A) (hb : Binds X.K fd ps [])
    (I : Inv X pins σ H s) (r : Vals vs us) (h : sp (vs ++ []) H Q E0) : wpAny (model X.prog X.w) X.A (call (.ref f) us) (EP X pins σ Q) X.xe s := by
  have r2 : Vals (vs ++ []) (us ++ []) := r.append .nil
  have hl : (us ++ ([] : List Value)).length = ps.length := by rw [← r2.length]; exact F.lenG _ _ _ _ h
  refine wpAny_call (codeAny_mono (F.runG X.A X.stack s H ⟨us, []⟩ (us ++ []) (vs ++ []) Q E0 hgu hr I.env0 (hb s us I.kIn hl) r2 h) fun r s' hq => ?_)
  cases r with
  | error e => exact False.elim hq
  | ok fl =>
    cases fl with
    | ret u => exact I.after hq
    | next => exact False.elim hq
    | brk => exact False.elim hq
    | cont => exact False.elim hq
theorem de_callG {k n : Nat} {x : Str} {f : Fn} {p0 : Pos} (hgu : X.A.guards = some []) (G : FnDG X.prog X.w X.K X.mg X.base k x n f) (hr : Room k X.A) (hg : Gl X x) (ha : DA X W (e :: es) fa) (hdb : (x == ("__debug__" : Str)) = false := by decide)
    (he : starEach (e :: es) X.env = (false, eval e X.env) :: starEach es X.env := by rfl) (hpl : (backTo pos (starEach es X.env)).any (·.1) = false := by rfl) : DE X W (.Call (.Name x p0) (e :: es) [] pos) (xFn n f fa) := by
  obtain ⟨ad, fd, ps, F, hm, hk, hb⟩ := G.ex
  have go : PE X (.Call (.Name x p0) (e :: es) [] pos) (tCall (spF X.K X.mg n f) [] E0 (tA X.K X.mg W fa)) := by
    refine ⟨fun pins s σ H Q I h => ?_⟩
    refine wpAny_Call_Name_kw (ld_glob I hg hm ?_ hdb)
    refine PySem.W.callWith_K (h₀ := X.base) I.ok.mod.kin hk (thn (ha.run pos pins s σ H _ I h) fun us s1 ⟨vs, H1, I1, r, q⟩ => ⟨I1.kIn, ?_⟩) he hpl
    exact run_fnG F hgu hr hb I1 r q
  refine PE.imp go fun σ H Q z => ?_
  obtain ⟨η, Fr, B, ρ, M, er, m, w⟩ := z
  refine ⟨η, Fr, B, ρ, M, er, m, w.bind fun ds M1 B1 ρ1 H1 l1 m1 w1 vs rv => ?_⟩
  split at w1
  · next hl =>
    rw [List.append_nil]
    exact ⟨_, ds, Fr, B1, ρ1, M1, hl, rv, m1, w1⟩
  · exact w1.elim
end
end Dn

namespace Law
open PySem PyProof.Rows L2 Evl Dn
def top (i : Nat) : Stmt := PySem.Challenge.pw_crowdpurse_k21_letters.main.body.getD i (.Pass ⟨0, 0, 0, 0⟩)
abbrev E0W : WX := fun _ _ _ _ => False
/-- what the module's names hold -/
structure G (K : PySem.W.Frag) (mg : Str → Option Value) : Prop where
  z_abs : mg "abs" = none
  z_all : mg "all" = none
  z_int : mg "int" = none
  z_isinstance : mg "isinstance" = none
  z_len : mg "len" = none
  z_max : mg "max" = none
  z_min : mg "min" = none
  z_range : mg "range" = none
  z_repr : mg "repr" = none
  z_sorted : mg "sorted" = none
  z_str : mg "str" = none
  z_tuple : mg "tuple" = none
  z_zip : mg "zip" = none
  c_Letter : ClsD K "Letter" ["number", "sender", "goal", "word", "parts"]
  i_Letter : IsC K mg "Letter"
  n_Letter : NeD K "Letter"
  o_Letter : OtD K "Letter"
/-! Letter.__str__ -/
abbrev s_Letter_str : Stmt := inClass (top 1) 2
abbrev n_Letter_str : List Str := ["self"]
theorem sc_Letter_str : FnScope n_Letter_str ["self"] (defScope s_Letter_str) := ⟨rfl, rfl, rfl, by decide +kernel, rfl, by decide +kernel, by decide +kernel⟩
noncomputable def b_Letter_str : XS := (xRet (xJs ((xFmt (xFld "Letter" "sender" (xVar 0))) :: (xC (.str ">")) :: (xFmt (xFld "Letter" "goal" (xVar 0))) :: (xC (.str " ")) :: (xFmt (xFld "Letter" "word" (xVar 0))) :: []) Str.empty))
noncomputable def f_Letter_str : Fn := callB 1 1 b_Letter_str
theorem ok_Letter_str {P : Program} {w : World} {K : PySem.W.Frag} {mg : Str → Option Value} {base : Heap} {f : Addr} {fd : FuncData} (T : G K mg) (F : Fun K "__str__" "Letter.__str__" s_Letter_str f fd) : FnOk P w K mg base CX0 1 f fd ["self"] (spF K mg 1 f_Letter_str) :=
  fn_okE (k := 0) (body := b_Letter_str) F sc_Letter_str rfl rfl rfl rfl fun cdv A outer s H E W hr =>
  (dss_one (ds_ret (de_joined (.cons (de_fmt (de_fld T.c_Letter (by decide) (de_var (i := 0)))) (.cons de_str (.cons (de_fmt (de_fld T.c_Letter (by decide) (de_var (i := 0)))) (.cons de_str (.cons (de_fmt (de_fld T.c_Letter (by decide) (de_var (i := 0)))) .nil))))))))
/-! Letter.__repr__ -/
abbrev s_Letter_repr : Stmt := inClass (top 1) 3
abbrev n_Letter_repr : List Str := ["self"]
theorem sc_Letter_repr : FnScope n_Letter_repr ["self"] (defScope s_Letter_repr) := ⟨rfl, rfl, rfl, by decide +kernel, rfl, by decide +kernel, by decide +kernel⟩
noncomputable def b_Letter_repr : XS := (xRet (xJs ((xC (.str "Letter(")) :: (xFmt (xFld "Letter" "number" (xVar 0))) :: (xC (.str ")")) :: []) Str.empty))
noncomputable def f_Letter_repr : Fn := callB 1 1 b_Letter_repr
theorem ok_Letter_repr {P : Program} {w : World} {K : PySem.W.Frag} {mg : Str → Option Value} {base : Heap} {f : Addr} {fd : FuncData} (T : G K mg) (F : Fun K "__repr__" "Letter.__repr__" s_Letter_repr f fd) : FnOk P w K mg base CX0 1 f fd ["self"] (spF K mg 1 f_Letter_repr) :=
  fn_okE (k := 0) (body := b_Letter_repr) F sc_Letter_repr rfl rfl rfl rfl fun cdv A outer s H E W hr =>
  (dss_one (ds_ret (de_joined (.cons de_str (.cons (de_fmt (de_fld T.c_Letter (by decide) (de_var (i := 0)))) (.cons de_str .nil))))))
/-! _law_is_of -/
abbrev s_law_is_of : Stmt := top 8
abbrev n_law_is_of : List Str := ["_law_letter_here", "_law_fields_here", "_law_told"]
theorem sc_law_is_of : FnScope n_law_is_of ["_law_letter_here", "_law_fields_here"] (defScope s_law_is_of) := ⟨rfl, rfl, rfl, by decide +kernel, rfl, by decide +kernel, by decide +kernel⟩
noncomputable def b_law_is_of : XS := (xSeq (xAsg (xLst (xCons (xFld "Letter" "number" (xVar 0)) (xCons (xFld "Letter" "sender" (xVar 0)) (xCons (xFld "Letter" "goal" (xVar 0)) (xCons (xFld "Letter" "word" (xVar 0)) (xCons (xFld "Letter" "parts" (xVar 0)) xNil)))))) (xgName 2)) (xSeq (xIfS (xOr (xTst (xOp (eqM true) (xCall bRepr (xCons (xVar 2) xNil)) (xCall bRepr (xCons (xVar 1) xNil)))) (xTst (xOp (eqM true) (xTxtO "Letter" f_Letter_repr (xCons (xVar 0) xNil)) (xOp dAdd (xOp dAdd (xC (.str "Letter(")) (xCall (cOr bStr1 bStr2) (xCons (xOp dIx (xVar 1) (xC (.int 0))) xNil))) (xC (.str ")")))))) (xRet (xC (.bl false))) xNx) (xRet (xOp (eqM false) (xTxtO "Letter" f_Letter_str (xCons (xVar 0) xNil)) (xOp dAdd (xOp dAdd (xOp dAdd (xOp dAdd (xOp dIx (xVar 1) (xC (.int 1))) (xC (.str ">"))) (xOp dIx (xVar 1) (xC (.int 2)))) (xC (.str " "))) (xOp dIx (xVar 1) (xC (.int 3))))))))
noncomputable def f_law_is_of : Fn := callB 2 3 b_law_is_of
theorem ok_law_is_of {P : Program} {w : World} {K : PySem.W.Frag} {mg : Str → Option Value} {base : Heap} {f : Addr} {fd : FuncData} (T : G K mg) (C_sp_Letter_str : SpD P w K mg base 1 "Letter" "__str__" 1 f_Letter_str) (C_sp_Letter_repr : SpD P w K mg base 1 "Letter" "__repr__" 1 f_Letter_repr) (F : Fun K "_law_is_of" "_law_is_of" s_law_is_of f fd) : FnOkG P w K mg base CX0 4 f fd ["_law_letter_here", "_law_fields_here"] (spF K mg 2 f_law_is_of) :=
  fnG_okE (k := 3) (body := b_law_is_of) F sc_law_is_of rfl rfl rfl rfl fun cdv A outer s H E W hg hr =>
  (dss_cons (ds_set (i := 2) sc_law_is_of.nd (de_lst (da_cons (de_fld T.c_Letter (by decide) (de_var (i := 0))) (da_cons (de_fld T.c_Letter (by decide) (de_var (i := 0))) (da_cons (de_fld T.c_Letter (by decide) (de_var (i := 0))) (da_cons (de_fld T.c_Letter (by decide) (de_var (i := 0))) (da_cons (de_fld T.c_Letter (by decide) (de_var (i := 0))) da_nil))))))) (dss_cons (ds_if (dt_w (dw_or (dt_cmp (od_neM hr) (de_callB (cd_repr hg hr) (by rfl) T.z_repr bt_repr (da_cons (de_var (i := 2)) da_nil)) (de_callB (cd_repr hg hr) (by rfl) T.z_repr bt_repr (da_cons (de_var (i := 1)) da_nil)) (nomark _)) (dw_or1 (dt_cmp (od_neM hr) (de_reprO C_sp_Letter_repr (hr.mono (by decide)) (by rfl) T.z_repr (da_cons (de_var (i := 0)) da_nil)) (de_op od_add (de_op od_add de_str (de_callTy cd_str (by rfl) T.z_str bt_str (da_cons (de_ix (de_var (i := 1)) de_int) da_nil))) de_str) (nomark _))))) (dss_one (ds_ret de_bl)) dss_nil) (dss_one (ds_ret (de_cmp (od_eqM hr) (de_strO C_sp_Letter_str (hr.mono (by decide)) (by rfl) T.z_str (da_cons (de_var (i := 0)) da_nil)) (de_op od_add (de_op od_add (de_op od_add (de_op od_add (de_ix (de_var (i := 1)) de_int) de_str) (de_ix (de_var (i := 1)) de_int)) de_str) (de_ix (de_var (i := 1)) de_int)) (nomark _))))))
/-! Letter.__eq__ -/
abbrev s_Letter_eq : Stmt := inClass (top 1) 1
abbrev n_Letter_eq : List Str := ["self", "other", "ends"]
theorem sc_Letter_eq : FnScope n_Letter_eq ["self", "other"] (defScope s_Letter_eq) := ⟨rfl, rfl, rfl, by decide +kernel, rfl, by decide +kernel, by decide +kernel⟩
noncomputable def b_Letter_eq : XS := (xSeq (xIfS (xNot (xTru (xIsO "Letter" (xCons (xVar 1) (xCons (xC (.fn "Letter")) xNil))))) (xRet (xC (.bl false))) xNx) (xSeq (xAsg (xOp (eqM false) (xTup (xCons (xFld "Letter" "number" (xVar 0)) (xCons (xFld "Letter" "sender" (xVar 0)) (xCons (xFld "Letter" "goal" (xVar 0)) xNil)))) (xTup (xCons (xFld "Letter" "number" (xVar 1)) (xCons (xFld "Letter" "sender" (xVar 1)) (xCons (xFld "Letter" "goal" (xVar 1)) xNil))))) (xgName 2)) (xRet (xAndV (xVar 2) (xOp (eqM false) (xTup (xCons (xFld "Letter" "word" (xVar 0)) (xCons (xFld "Letter" "parts" (xVar 0)) xNil))) (xTup (xCons (xFld "Letter" "word" (xVar 1)) (xCons (xFld "Letter" "parts" (xVar 1)) xNil))))))))
noncomputable def f_Letter_eq : Fn := callB 2 3 b_Letter_eq
theorem ok_Letter_eq {P : Program} {w : World} {K : PySem.W.Frag} {mg : Str → Option Value} {base : Heap} {f : Addr} {fd : FuncData} (T : G K mg) (F : Fun K "__eq__" "Letter.__eq__" s_Letter_eq f fd) : FnOk P w K mg base CX0 1 f fd ["self", "other"] (spF K mg 2 f_Letter_eq) :=
  fn_okE (k := 0) (body := b_Letter_eq) F sc_Letter_eq rfl rfl rfl rfl fun cdv A outer s H E W hr =>
  (dss_cons (ds_if (dt_not (dt_tru (de_isO T.i_Letter (by rfl) T.z_isinstance (da_cons (de_var (i := 1)) (da_cons (de_cls T.i_Letter (by rfl)) da_nil))))) (dss_one (ds_ret de_bl)) dss_nil) (dss_cons (ds_set (i := 2) sc_Letter_eq.nd (de_cmp (od_eqM hr) (de_tup (da_cons (de_fld T.c_Letter (by decide) (de_var (i := 0))) (da_cons (de_fld T.c_Letter (by decide) (de_var (i := 0))) (da_cons (de_fld T.c_Letter (by decide) (de_var (i := 0))) da_nil)))) (de_tup (da_cons (de_fld T.c_Letter (by decide) (de_var (i := 1))) (da_cons (de_fld T.c_Letter (by decide) (de_var (i := 1))) (da_cons (de_fld T.c_Letter (by decide) (de_var (i := 1))) da_nil)))) (nomark _))) (dss_one (ds_ret (de_and (de_var (i := 2)) (de_one (de_cmp (od_eqM hr) (de_tup (da_cons (de_fld T.c_Letter (by decide) (de_var (i := 0))) (da_cons (de_fld T.c_Letter (by decide) (de_var (i := 0))) da_nil))) (de_tup (da_cons (de_fld T.c_Letter (by decide) (de_var (i := 1))) (da_cons (de_fld T.c_Letter (by decide) (de_var (i := 1))) da_nil))) (nomark _))))))))
/-! Letter.__init__ -/
abbrev s_Letter_init : Stmt := inClass (top 1) 0
abbrev n_Letter_init : List Str := ["self", "number", "sender", "goal", "word", "parts"]
theorem sc_Letter_init : FnScope n_Letter_init ["self", "number", "sender", "goal", "word", "parts"] (defScope s_Letter_init) := ⟨rfl, rfl, rfl, by decide +kernel, rfl, by decide +kernel, by decide +kernel⟩
noncomputable def b_Letter_init : XS := (xSeq (xSetF "Letter" "number" (xVar 1) (xVar 0)) (xSeq (xSetF "Letter" "sender" (xVar 2) (xVar 0)) (xSeq (xSetF "Letter" "goal" (xVar 3) (xVar 0)) (xSeq (xSetF "Letter" "word" (xVar 4) (xVar 0)) (xSetF "Letter" "parts" (xVar 5) (xVar 0))))))
noncomputable def f_Letter_init : Fn := callB 6 6 b_Letter_init
theorem ok_Letter_init {P : Program} {w : World} {K : PySem.W.Frag} {mg : Str → Option Value} {base : Heap} {f : Addr} {fd : FuncData} (T : G K mg) {dvs : List V} {kws : List (Str × V)} (F : FunD K "__init__" "Letter.__init__" (defArgs s_Letter_init) (defBody s_Letter_init) (defScope s_Letter_init) dvs kws f fd) : FnOk P w K mg base CX0 1 f fd ["self", "number", "sender", "goal", "word", "parts"] (spF K mg 6 f_Letter_init) :=
  fnD_okE (k := 0) (body := b_Letter_init) F sc_Letter_init rfl rfl rfl rfl fun cdv A outer s H E W hr =>
  (dss_cons (ds_setF T.c_Letter (by decide) (de_var (i := 1)) (de_var (i := 0))) (dss_cons (ds_setF T.c_Letter (by decide) (de_var (i := 2)) (de_var (i := 0))) (dss_cons (ds_setF T.c_Letter (by decide) (de_var (i := 3)) (de_var (i := 0))) (dss_cons (ds_setF T.c_Letter (by decide) (de_var (i := 4)) (de_var (i := 0))) (dss_one (ds_setF T.c_Letter (by decide) (de_var (i := 5)) (de_var (i := 0))))))))
/-! _law_others -/
abbrev s_law_others : Stmt := top 9
abbrev n_law_others : List Str := ["_law_fields_here", "_law_first", "_law_two", "_law_three", "_law_four", "_law_five", "_law_found"]
theorem sc_law_others : FnScope n_law_others ["_law_fields_here"] (defScope s_law_others) := ⟨rfl, rfl, rfl, by decide +kernel, rfl, by decide +kernel, by decide +kernel⟩
noncomputable def b_law_others : XS := (xSeq (xAsg (xVar 0) (xgLst 5 (xgsCons (xgName 1) (xgsCons (xgName 2) (xgsCons (xgName 3) (xgsCons (xgName 4) (xgsCons (xgName 5) xgsNil))))))) (xSeq (xAsg (xLst (xCons (xLst (xCons (xOp dAdd (xVar 1) (xC (.int 1))) (xCons (xVar 2) (xCons (xVar 3) (xCons (xVar 4) (xCons (xVar 5) xNil)))))) (xCons (xLst (xCons (xVar 1) (xCons (xVar 3) (xCons (xVar 2) (xCons (xVar 4) (xCons (xVar 5) xNil)))))) (xCons (xLst (xCons (xVar 1) (xCons (xVar 2) (xCons (xVar 2) (xCons (xVar 4) (xCons (xVar 5) xNil)))))) xNil)))) (xgName 6)) (xSeq (xAsg (xOp dAdd (xVar 6) (xLst (xCons (xLst (xCons (xVar 1) (xCons (xVar 3) (xCons (xVar 3) (xCons (xVar 4) (xCons (xVar 5) xNil)))))) (xCons (xLst (xCons (xVar 1) (xCons (xVar 2) (xCons (xVar 3) (xCons (xVar 4) (xCons (xOp dAdd (xVar 5) (xTup (xCons (xC (.int 1)) xNil))) xNil)))))) xNil)))) (xgName 6)) (xSeq (xAsg (xOp dAdd (xVar 6) (xLst (xCons (xLst (xCons (xVar 1) (xCons (xVar 2) (xCons (xVar 3) (xCons (xOp dIx (xLst (xCons (xC (.str "want")) (xCons (xC (.str "over")) xNil))) (xCall bInt (xCons (xOp (eqM false) (xVar 4) (xC (.str "want"))) xNil))) (xCons (xVar 5) xNil)))))) xNil))) (xgName 6)) (xRet (xOp dAdd (xVar 6) (xLst (xCons (xLst (xCons (xVar 1) (xCons (xVar 2) (xCons (xVar 3) (xCons (xVar 4) (xCons (xTup (xCons (xVar 5) xNil)) xNil)))))) (xCons (xLst (xCons (xOp dAdd (xVar 1) (xC (.int 1))) (xCons (xVar 2) (xCons (xVar 3) (xCons (xVar 4) (xCons (xOp dAdd (xVar 5) (xTup (xCons (xC (.int 0)) xNil))) xNil)))))) xNil)))))))))
noncomputable def f_law_others : Fn := callB 1 7 b_law_others
theorem ok_law_others {P : Program} {w : World} {K : PySem.W.Frag} {mg : Str → Option Value} {base : Heap} {f : Addr} {fd : FuncData} (T : G K mg) (F : Fun K "_law_others" "_law_others" s_law_others f fd) : FnOk P w K mg base CX0 1 f fd ["_law_fields_here"] (spF K mg 1 f_law_others) :=
  fn_okE (k := 0) (body := b_law_others) F sc_law_others rfl rfl rfl rfl fun cdv A outer s H E W hr =>
  (dss_cons (ds_asg (de_var (i := 0)) (dg_lst rfl (dgs_cons (dg_name (i := 1) sc_law_others.nd) (dgs_cons (dg_name (i := 2) sc_law_others.nd) (dgs_cons (dg_name (i := 3) sc_law_others.nd) (dgs_cons (dg_name (i := 4) sc_law_others.nd) (dgs_cons (dg_name (i := 5) sc_law_others.nd) dgs_nil))))))) (dss_cons (ds_set (i := 6) sc_law_others.nd (de_lst (da_cons (de_lst (da_cons (de_op od_add (de_var (i := 1)) de_int) (da_cons (de_var (i := 2)) (da_cons (de_var (i := 3)) (da_cons (de_var (i := 4)) (da_cons (de_var (i := 5)) da_nil)))))) (da_cons (de_lst (da_cons (de_var (i := 1)) (da_cons (de_var (i := 3)) (da_cons (de_var (i := 2)) (da_cons (de_var (i := 4)) (da_cons (de_var (i := 5)) da_nil)))))) (da_cons (de_lst (da_cons (de_var (i := 1)) (da_cons (de_var (i := 2)) (da_cons (de_var (i := 2)) (da_cons (de_var (i := 4)) (da_cons (de_var (i := 5)) da_nil)))))) da_nil))))) (dss_cons (ds_set (i := 6) sc_law_others.nd (de_op od_add (de_var (i := 6)) (de_lst (da_cons (de_lst (da_cons (de_var (i := 1)) (da_cons (de_var (i := 3)) (da_cons (de_var (i := 3)) (da_cons (de_var (i := 4)) (da_cons (de_var (i := 5)) da_nil)))))) (da_cons (de_lst (da_cons (de_var (i := 1)) (da_cons (de_var (i := 2)) (da_cons (de_var (i := 3)) (da_cons (de_var (i := 4)) (da_cons (de_op od_add (de_var (i := 5)) (de_tup (da_cons de_int da_nil))) da_nil)))))) da_nil))))) (dss_cons (ds_set (i := 6) sc_law_others.nd (de_op od_add (de_var (i := 6)) (de_lst (da_cons (de_lst (da_cons (de_var (i := 1)) (da_cons (de_var (i := 2)) (da_cons (de_var (i := 3)) (da_cons (de_ix (de_lst (da_cons de_str (da_cons de_str da_nil))) (de_callTy cd_int (by rfl) T.z_int bt_int (da_cons (de_cmp (od_eqM hr) (de_var (i := 4)) de_str (nomark _)) da_nil))) (da_cons (de_var (i := 5)) da_nil)))))) da_nil)))) (dss_one (ds_ret (de_op od_add (de_var (i := 6)) (de_lst (da_cons (de_lst (da_cons (de_var (i := 1)) (da_cons (de_var (i := 2)) (da_cons (de_var (i := 3)) (da_cons (de_var (i := 4)) (da_cons (de_tup (da_cons (de_var (i := 5)) da_nil)) da_nil)))))) (da_cons (de_lst (da_cons (de_op od_add (de_var (i := 1)) de_int) (da_cons (de_var (i := 2)) (da_cons (de_var (i := 3)) (da_cons (de_var (i := 4)) (da_cons (de_op od_add (de_var (i := 5)) (de_tup (da_cons de_int da_nil))) da_nil)))))) da_nil))))))))))
/-! _law_take -/
abbrev s_law_take : Stmt := top 4
abbrev n_law_take : List Str := ["_law_bag_here", "_law_often", "_law_digit", "_law_primes", "_law_step", "_law_base", "_law_found"]
theorem sc_law_take : FnScope n_law_take ["_law_bag_here", "_law_often"] (defScope s_law_take) := ⟨rfl, rfl, rfl, by decide +kernel, rfl, by decide +kernel, by decide +kernel⟩
noncomputable def b_law_take : XS := (xSeq (xIfS (xTst (xOp dGt (xOp dIx (xVar 0) (xC (.int 0))) (xC (.int 0)))) (xSeq (xAsg (xOp dMod (xOp dIx (xVar 0) (xC (.int 0))) (xVar 1)) (xgName 2)) (xSeq (xSetL (xOp dDiv (xOp dIx (xVar 0) (xC (.int 0))) (xVar 1)) (xVar 0) (xC (.int 0))) (xRet (xVar 2)))) xNx) (xSeq (xAsg (xTup (xCons (xC (.int 2147483647)) (xCons (xC (.int 2147483629)) (xCons (xC (.int 2147483587)) (xCons (xC (.int 2147483579)) (xCons (xC (.int 2147483563)) (xCons (xC (.int 2147483549)) (xCons (xC (.int 2147483543)) (xCons (xC (.int 2147483497)) xNil))))))))) (xgName 3)) (xSeq (xSetL (xOp dAdd (xOp dIx (xVar 0) (xC (.int 2))) (xC (.int 1))) (xVar 0) (xC (.int 2))) (xSeq (xAsg (xOp dIx (xVar 0) (xC (.int 2))) (xgName 4)) (xSeq (xAsg (xOp dAdd (xOp dAdd (xOp dMul (xOp dIx (xVar 0) (xC (.int 1))) (xOp dAdd (xOp dMul (xC (.int 2)) (xVar 4)) (xC (.int 1)))) (xOp dMul (xOp dMul (xC (.int 6121)) (xVar 4)) (xVar 4))) (xC (.int 41))) (xgName 5)) (xSeq (xAsg (xOp dMod (xOp dPow (xVar 5) (xC (.int 3))) (xOp dIx (xVar 3) (xOp dMod (xVar 4) (xC (.int 8))))) (xgName 6)) (xRet (xOp dMod (xOp dDiv (xOp dMod (xOp dMul (xVar 6) (xOp dAdd (xOp dDiv (xVar 6) (xC (.int 4096))) (xC (.int 19)))) (xOp dIx (xVar 3) (xOp dMod (xOp dAdd (xVar 4) (xC (.int 3))) (xC (.int 8))))) (xC (.int 16))) (xVar 1)))))))))
noncomputable def f_law_take : Fn := callB 2 7 b_law_take
theorem ok_law_take {P : Program} {w : World} {K : PySem.W.Frag} {mg : Str → Option Value} {base : Heap} {f : Addr} {fd : FuncData} (T : G K mg) (F : Fun K "_law_take" "_law_take" s_law_take f fd) : FnOk P w K mg base CX0 1 f fd ["_law_bag_here", "_law_often"] (spF K mg 2 f_law_take) :=
  fn_okE (k := 0) (body := b_law_take) F sc_law_take rfl rfl rfl rfl fun cdv A outer s H E W hr =>
  (dss_cons (ds_if (dt_cmp od_gt (de_ix (de_var (i := 0)) de_int) de_int (nomark _)) (dss_cons (ds_set (i := 2) sc_law_take.nd (de_op od_mod (de_ix (de_var (i := 0)) de_int) (de_var (i := 1)))) (dss_cons (ds_setL (de_op od_div (de_ix (de_var (i := 0)) de_int) (de_var (i := 1))) (de_var (i := 0)) de_int) (dss_one (ds_ret (de_var (i := 2)))))) dss_nil) (dss_cons (ds_set (i := 3) sc_law_take.nd (de_tup (da_cons de_int (da_cons de_int (da_cons de_int (da_cons de_int (da_cons de_int (da_cons de_int (da_cons de_int (da_cons de_int da_nil)))))))))) (dss_cons (ds_setL (de_op od_add (de_ix (de_var (i := 0)) de_int) de_int) (de_var (i := 0)) de_int) (dss_cons (ds_set (i := 4) sc_law_take.nd (de_ix (de_var (i := 0)) de_int)) (dss_cons (ds_set (i := 5) sc_law_take.nd (de_op od_add (de_op od_add (de_op od_mul (de_ix (de_var (i := 0)) de_int) (de_op od_add (de_op od_mul de_int (de_var (i := 4))) de_int)) (de_op od_mul (de_op od_mul de_int (de_var (i := 4))) (de_var (i := 4)))) de_int)) (dss_cons (ds_set (i := 6) sc_law_take.nd (de_op od_mod (de_op od_pow (de_var (i := 5)) de_int) (de_ix (de_var (i := 3)) (de_op od_mod (de_var (i := 4)) de_int)))) (dss_one (ds_ret (de_op od_mod (de_op od_div (de_op od_mod (de_op od_mul (de_var (i := 6)) (de_op od_add (de_op od_div (de_var (i := 6)) de_int) de_int)) (de_ix (de_var (i := 3)) (de_op od_mod (de_op od_add (de_var (i := 4)) de_int) de_int))) de_int) (de_var (i := 1)))))))))))
/-! _law_letter -/
abbrev s_law_letter : Stmt := top 6
abbrev n_law_letter : List Str := ["_law_fields_here", "_law_way", "_law_one", "_law_two", "_law_three", "_law_four", "_law_five"]
theorem sc_law_letter : FnScope n_law_letter ["_law_fields_here", "_law_way"] (defScope s_law_letter) := ⟨rfl, rfl, rfl, by decide +kernel, rfl, by decide +kernel, by decide +kernel⟩
noncomputable def b_law_letter : XS := (xSeq (xAsg (xVar 0) (xgLst 5 (xgsCons (xgName 2) (xgsCons (xgName 3) (xgsCons (xgName 4) (xgsCons (xgName 5) (xgsCons (xgName 6) xgsNil))))))) (xSeq (xIfS (xTst (xOp (eqM false) (xVar 1) (xC (.int 0)))) (xRet (xFzI [] (xMakeP "Letter" 1 4 [0, 1, 2, 3, 4, 5] [] f_Letter_init (xCons (xVar 2) xNil) (xCons (xVar 3) (xCons (xVar 4) (xCons (xVar 5) (xCons (xVar 6) xNil))))))) xNx) (xSeq (xIfS (xTst (xOp (eqM false) (xVar 1) (xC (.int 1)))) (xRet (xFzI [] (xMakeP "Letter" 0 5 [0, 1, 5, 4, 3, 2] [] f_Letter_init xNil (xCons (xVar 2) (xCons (xVar 6) (xCons (xVar 5) (xCons (xVar 4) (xCons (xVar 3) xNil)))))))) xNx) (xSeq (xIfS (xTst (xOp (eqM false) (xVar 1) (xC (.int 2)))) (xRet (xFzI [] (xMakeP "Letter" 1 4 [0, 1, 3, 5, 2, 4] [] f_Letter_init (xCons (xVar 2) xNil) (xCons (xVar 5) (xCons (xVar 3) (xCons (xVar 6) (xCons (xVar 4) xNil))))))) xNx) (xRet (xFzI [] (xMakeP "Letter" 0 5 [0, 2, 5, 1, 3, 4] [] f_Letter_init xNil (xCons (xVar 4) (xCons (xVar 2) (xCons (xVar 5) (xCons (xVar 6) (xCons (xVar 3) xNil))))))))))))
noncomputable def f_law_letter : Fn := callB 2 7 b_law_letter
theorem ok_law_letter {P : Program} {w : World} {K : PySem.W.Frag} {mg : Str → Option Value} {base : Heap} {f : Addr} {fd : FuncData} (T : G K mg) (C_mkp_Letter_0_goal_number_word_parts_sender : MkP P w K mg base 1 "Letter" 0 ["goal", "number", "word", "parts", "sender"] [0, 2, 5, 1, 3, 4] [] f_Letter_init) (C_mkp_Letter_1_word_sender_parts_goal : MkP P w K mg base 1 "Letter" 1 ["word", "sender", "parts", "goal"] [0, 1, 3, 5, 2, 4] [] f_Letter_init) (C_mkp_Letter_0_number_parts_word_goal_sender : MkP P w K mg base 1 "Letter" 0 ["number", "parts", "word", "goal", "sender"] [0, 1, 5, 4, 3, 2] [] f_Letter_init) (C_mkp_Letter_1_sender_goal_word_parts : MkP P w K mg base 1 "Letter" 1 ["sender", "goal", "word", "parts"] [0, 1, 2, 3, 4, 5] [] f_Letter_init) (F : Fun K "_law_letter" "_law_letter" s_law_letter f fd) : FnOk P w K mg base CX0 3 f fd ["_law_fields_here", "_law_way"] (spF K mg 2 f_law_letter) :=
  fn_okE (k := 2) (body := b_law_letter) F sc_law_letter rfl rfl rfl rfl fun cdv A outer s H E W hr =>
  (dss_cons (ds_asg (de_var (i := 0)) (dg_lst rfl (dgs_cons (dg_name (i := 2) sc_law_letter.nd) (dgs_cons (dg_name (i := 3) sc_law_letter.nd) (dgs_cons (dg_name (i := 4) sc_law_letter.nd) (dgs_cons (dg_name (i := 5) sc_law_letter.nd) (dgs_cons (dg_name (i := 6) sc_law_letter.nd) dgs_nil))))))) (dss_cons (ds_if (dt_cmp (od_eqM hr) (de_var (i := 1)) de_int (nomark _)) (dss_one (ds_ret (de_fzI (fls := []) (de_makeP C_mkp_Letter_1_sender_goal_word_parts (hr.mono (by decide)) (by rfl) (da_cons (de_var (i := 2)) da_nil) (dk_cons (de_var (i := 3)) (dk_cons (de_var (i := 4)) (dk_cons (de_var (i := 5)) (dk_cons (de_var (i := 6)) dk_nil)))))))) dss_nil) (dss_cons (ds_if (dt_cmp (od_eqM hr) (de_var (i := 1)) de_int (nomark _)) (dss_one (ds_ret (de_fzI (fls := []) (de_makeP0 C_mkp_Letter_0_number_parts_word_goal_sender (hr.mono (by decide)) (by rfl) (dk_cons (de_var (i := 2)) (dk_cons (de_var (i := 6)) (dk_cons (de_var (i := 5)) (dk_cons (de_var (i := 4)) (dk_cons (de_var (i := 3)) dk_nil))))))))) dss_nil) (dss_cons (ds_if (dt_cmp (od_eqM hr) (de_var (i := 1)) de_int (nomark _)) (dss_one (ds_ret (de_fzI (fls := []) (de_makeP C_mkp_Letter_1_word_sender_parts_goal (hr.mono (by decide)) (by rfl) (da_cons (de_var (i := 2)) da_nil) (dk_cons (de_var (i := 5)) (dk_cons (de_var (i := 3)) (dk_cons (de_var (i := 6)) (dk_cons (de_var (i := 4)) dk_nil)))))))) dss_nil) (dss_one (ds_ret (de_fzI (fls := []) (de_makeP0 C_mkp_Letter_0_goal_number_word_parts_sender (hr.mono (by decide)) (by rfl) (dk_cons (de_var (i := 4)) (dk_cons (de_var (i := 2)) (dk_cons (de_var (i := 5)) (dk_cons (de_var (i := 6)) (dk_cons (de_var (i := 3)) dk_nil)))))))))))))
/-! _law_alike -/
abbrev s_law_alike : Stmt := top 10
abbrev n_law_alike : List Str := ["_law_letter_here", "_law_fields_here", "_law_bag_here", "_law_twin", "_law_strange", "_law_others_here", "_law_other", "_law_one"]
theorem sc_law_alike : FnScope n_law_alike ["_law_letter_here", "_law_fields_here", "_law_bag_here"] (defScope s_law_alike) := ⟨rfl, rfl, rfl, by decide +kernel, rfl, by decide +kernel, by decide +kernel⟩
noncomputable def b_law_alike : XS := (xSeq (xAsg (xFn 2 f_law_letter (xCons (xVar 1) (xCons (xFn 2 f_law_take (xCons (xVar 2) (xCons (xC (.int 4)) xNil))) xNil))) (xgName 3)) (xSeq (xAsg (xLst (xCons (xCall bTuple (xCons (xVar 1) xNil)) (xCons (xVar 1) (xCons (xOp dIx (xVar 1) (xC (.int 0))) (xCons (xTxtO "Letter" f_Letter_str (xCons (xVar 0) xNil)) (xCons (xTxtO "Letter" f_Letter_repr (xCons (xVar 0) xNil)) (xCons (xC .non) (xCons (xTup xNil) (xCons (xOp dIx (xVar 1) (xC (.int 4))) xNil))))))))) (xgName 4)) (xSeq (xAsg (xLc frozenL (xSq (xFn 1 f_law_others (xCons (xVar 1) xNil))) (xgName 7) xYes (xFn 2 f_law_letter (xCons (xVar 7) (xCons (xFn 2 f_law_take (xCons (xVar 2) (xCons (xC (.int 4)) xNil))) xNil))) [7]) (xgName 5)) (xSeq (xIfS (xOr (xNot (xTst (xEqX false "Letter" f_Letter_eq (xVar 0) (xVar 3)))) (xOr (xTst (xEqX true "Letter" f_Letter_eq (xVar 0) (xVar 3))) (xNot (xTst (xEqX false "Letter" f_Letter_eq (xVar 3) (xVar 0)))))) (xRet (xC (.bl false))) xNx) (xSeq (xIfS (xTst (xOp (eqM true) (xCountX "Letter" f_Letter_eq (xLst (xCons (xVar 0) (xCons (xVar 3) xNil))) (xCons (xVar 3) xNil)) (xC (.int 2)))) (xRet (xC (.bl false))) xNx) (xSeq (xFor (xSq (xOp dAdd (xVar 5) (xVar 4))) (xgName 6) (xIfS (xOr (xTst (xEqX false "Letter" f_Letter_eq (xVar 0) (xVar 6))) (xOr (xNot (xTst (xEqX true "Letter" f_Letter_eq (xVar 0) (xVar 6)))) (xTst (xInX false "Letter" f_Letter_eq (xVar 6) (xLst (xCons (xVar 0) (xCons (xVar 3) xNil))))))) (xRet (xC (.bl false))) xNx)) (xRet (xAndV (xInX false "Letter" f_Letter_eq (xVar 0) (xOp dAdd (xVar 5) (xLst (xCons (xVar 3) xNil)))) (xInX true "Letter" f_Letter_eq (xVar 0) (xOp dAdd (xVar 5) (xVar 4)))))))))))
noncomputable def f_law_alike : Fn := callB 3 8 b_law_alike
theorem ok_law_alike {P : Program} {w : World} {K : PySem.W.Frag} {mg : Str → Option Value} {base : Heap} {f : Addr} {fd : FuncData} (T : G K mg) (C_sp_Letter_eq : SpD P w K mg base 1 "Letter" "__eq__" 2 f_Letter_eq) (C_law_others : FnD P w K mg base 1 "_law_others" 1 f_law_others) (C_law_take : FnD P w K mg base 1 "_law_take" 2 f_law_take) (C_law_letter : FnD P w K mg base 3 "_law_letter" 2 f_law_letter) (C_sp_Letter_repr : SpD P w K mg base 1 "Letter" "__repr__" 1 f_Letter_repr) (C_sp_Letter_str : SpD P w K mg base 1 "Letter" "__str__" 1 f_Letter_str) (F : Fun K "_law_alike" "_law_alike" s_law_alike f fd) : FnOk P w K mg base CX0 6 f fd ["_law_letter_here", "_law_fields_here", "_law_bag_here"] (spF K mg 3 f_law_alike) :=
  fn_okE (k := 5) (body := b_law_alike) F sc_law_alike rfl rfl rfl rfl fun cdv A outer s H E W hr =>
  (dss_cons (ds_set (i := 3) sc_law_alike.nd (de_call C_law_letter (hr.mono (by decide)) (by rfl) (da_cons (de_var (i := 1)) (da_cons (de_call C_law_take (hr.mono (by decide)) (by rfl) (da_cons (de_var (i := 2)) (da_cons de_int da_nil))) da_nil)))) (dss_cons (ds_set (i := 4) sc_law_alike.nd (de_lst (da_cons (de_callTy cd_tuple (by rfl) T.z_tuple bt_tuple (da_cons (de_var (i := 1)) da_nil)) (da_cons (de_var (i := 1)) (da_cons (de_ix (de_var (i := 1)) de_int) (da_cons (de_strO C_sp_Letter_str (hr.mono (by decide)) (by rfl) T.z_str (da_cons (de_var (i := 0)) da_nil)) (da_cons (de_reprO C_sp_Letter_repr (hr.mono (by decide)) (by rfl) T.z_repr (da_cons (de_var (i := 0)) da_nil)) (da_cons de_non (da_cons (de_tup da_nil) (da_cons (de_ix (de_var (i := 1)) de_int) da_nil)))))))))) (dss_cons (ds_setLc (i := 5) (own := [("_law_one", 7)]) (W' := E0W) fin_frozen rfl sc_law_alike.nd (di_sq (de_call C_law_others (hr.mono (by decide)) (by rfl) (da_cons (de_var (i := 1)) da_nil))) (blkOk_by (own := [("_law_one", 7)]) (N := n_law_alike) (sc := defScope s_law_alike) (by decide +kernel)) (fun _ _ _ _ _ => (dg_name (i := 7) sc_law_alike.nd)) (fun _ _ _ _ _ => dts_nil) (fun _ _ _ _ _ => (de_call C_law_letter (hr.mono (by decide)) (by rfl) (da_cons (de_var (i := 7)) (da_cons (de_call C_law_take (hr.mono (by decide)) (by rfl) (da_cons (de_var (i := 2)) (da_cons de_int da_nil))) da_nil)))) (by decide)) (dss_cons (ds_if (dt_w (dw_or (dt_not (dt_eqX C_sp_Letter_eq T.o_Letter (hr.mono (by decide)) (de_var (i := 0)) (de_var (i := 3)) (nomark _))) (dw_or (dt_neX C_sp_Letter_eq T.o_Letter T.n_Letter (hr.mono (by decide)) (de_var (i := 0)) (de_var (i := 3)) (nomark _)) (dw_or1 (dt_not (dt_eqX C_sp_Letter_eq T.o_Letter (hr.mono (by decide)) (de_var (i := 3)) (de_var (i := 0)) (nomark _))))))) (dss_one (ds_ret de_bl)) dss_nil) (dss_cons (ds_if (dt_cmp (od_neM hr) (de_countX C_sp_Letter_eq T.o_Letter (hr.mono (by decide)) (de_lst (da_cons (de_var (i := 0)) (da_cons (de_var (i := 3)) da_nil))) (da_cons (de_var (i := 3)) da_nil)) de_int (nomark _)) (dss_one (ds_ret de_bl)) dss_nil) (dss_cons (ds_for PassesOwn.never rfl (di_sq (de_op od_add (de_var (i := 5)) (de_var (i := 4)))) (dg_name (i := 6) sc_law_alike.nd) (dss_one (ds_if (dt_w (dw_or (dt_eqX C_sp_Letter_eq T.o_Letter (hr.mono (by decide)) (de_var (i := 0)) (de_var (i := 6)) (nomark _)) (dw_or (dt_not (dt_neX C_sp_Letter_eq T.o_Letter T.n_Letter (hr.mono (by decide)) (de_var (i := 0)) (de_var (i := 6)) (nomark _))) (dw_or1 (dt_inX C_sp_Letter_eq T.o_Letter (hr.mono (by decide)) (de_var (i := 6)) (de_lst (da_cons (de_var (i := 0)) (da_cons (de_var (i := 3)) da_nil))) (by rfl)))))) (dss_one (ds_ret de_bl)) dss_nil))) (dss_one (ds_ret (de_and (de_inX C_sp_Letter_eq T.o_Letter (hr.mono (by decide)) (de_var (i := 0)) (de_op od_add (de_var (i := 5)) (de_lst (da_cons (de_var (i := 3)) da_nil))) (by rfl)) (de_one (de_notInX C_sp_Letter_eq T.o_Letter (hr.mono (by decide)) (de_var (i := 0)) (de_op od_add (de_var (i := 5)) (de_var (i := 4))) (by rfl))))))))))))
/-! _law_names -/
abbrev s_law_names : Stmt := top 5
abbrev n_law_names : List Str := ["_law_bag_here", "_law_often", "_law_letters", "_law_ahead", "_law_behind", "_law_first", "_law_k"]
theorem sc_law_names : FnScope n_law_names ["_law_bag_here", "_law_often"] (defScope s_law_names) := ⟨rfl, rfl, rfl, by decide +kernel, rfl, by decide +kernel, by decide +kernel⟩
noncomputable def b_law_names : XS := (xSeq (xAsg (xC (.str "abcdefghijklmnopqrstuvwxyz")) (xgName 2)) (xSeq (xAsg (xJoin (xC (.str "")) (xLc frozenL (xRng (xCons (xFn 2 f_law_take (xCons (xVar 0) (xCons (xC (.int 5)) xNil))) xNil)) (xgName 6) xYes (xOp dIx (xVar 2) (xFn 2 f_law_take (xCons (xVar 0) (xCons (xC (.int 26)) xNil)))) [6])) (xgName 3)) (xSeq (xAsg (xJoin (xC (.str "")) (xLc frozenL (xRng (xCons (xFn 2 f_law_take (xCons (xVar 0) (xCons (xC (.int 4)) xNil))) xNil)) (xgName 6) xYes (xOp dIx (xVar 2) (xFn 2 f_law_take (xCons (xVar 0) (xCons (xC (.int 26)) xNil)))) [6])) (xgName 4)) (xSeq (xAsg (xFn 2 f_law_take (xCons (xVar 0) (xCons (xC (.int 26)) xNil))) (xgName 5)) (xRet (xCall bSorted (xCons (xLc frozenL (xRng (xCons (xVar 1) xNil)) (xgName 6) xYes (xOp dAdd (xOp dAdd (xVar 3) (xOp dIx (xVar 2) (xOp dMod (xOp dAdd (xVar 5) (xOp dMul (xC (.int 5)) (xVar 6))) (xC (.int 26))))) (xSl dSl (xVar 4) xNone (xSome (xOp dMod (xVar 6) (xC (.int 4)))))) [6]) xNil)))))))
noncomputable def f_law_names : Fn := callB 2 7 b_law_names
theorem ok_law_names {P : Program} {w : World} {K : PySem.W.Frag} {mg : Str → Option Value} {base : Heap} {f : Addr} {fd : FuncData} (T : G K mg) (C_law_take : FnD P w K mg base 1 "_law_take" 2 f_law_take) (F : Fun K "_law_names" "_law_names" s_law_names f fd) : FnOk P w K mg base CX0 2 f fd ["_law_bag_here", "_law_often"] (spF K mg 2 f_law_names) :=
  fn_okE (k := 1) (body := b_law_names) F sc_law_names rfl rfl rfl rfl fun cdv A outer s H E W hr =>
  (dss_cons (ds_set (i := 2) sc_law_names.nd de_str) (dss_cons (ds_set (i := 3) sc_law_names.nd (de_join de_str (de_lc (own := [("_law_k", 6)]) (W' := E0W) fin_frozen rfl sc_law_names.nd (di_range1 (by rfl) T.z_range (da_cons (de_call C_law_take (hr.mono (by decide)) (by rfl) (da_cons (de_var (i := 0)) (da_cons de_int da_nil))) da_nil)) (blkOk_by (own := [("_law_k", 6)]) (N := n_law_names) (sc := defScope s_law_names) (by decide +kernel)) (fun _ _ _ _ _ => (dg_name (i := 6) sc_law_names.nd)) (fun _ _ _ _ _ => dts_nil) (fun _ _ _ _ _ => (de_ix (de_var (i := 2)) (de_call C_law_take (hr.mono (by decide)) (by rfl) (da_cons (de_var (i := 0)) (da_cons de_int da_nil))))) (by decide)))) (dss_cons (ds_set (i := 4) sc_law_names.nd (de_join de_str (de_lc (own := [("_law_k", 6)]) (W' := E0W) fin_frozen rfl sc_law_names.nd (di_range1 (by rfl) T.z_range (da_cons (de_call C_law_take (hr.mono (by decide)) (by rfl) (da_cons (de_var (i := 0)) (da_cons de_int da_nil))) da_nil)) (blkOk_by (own := [("_law_k", 6)]) (N := n_law_names) (sc := defScope s_law_names) (by decide +kernel)) (fun _ _ _ _ _ => (dg_name (i := 6) sc_law_names.nd)) (fun _ _ _ _ _ => dts_nil) (fun _ _ _ _ _ => (de_ix (de_var (i := 2)) (de_call C_law_take (hr.mono (by decide)) (by rfl) (da_cons (de_var (i := 0)) (da_cons de_int da_nil))))) (by decide)))) (dss_cons (ds_set (i := 5) sc_law_names.nd (de_call C_law_take (hr.mono (by decide)) (by rfl) (da_cons (de_var (i := 0)) (da_cons de_int da_nil)))) (dss_one (ds_ret (de_callB cd_sorted (by rfl) T.z_sorted bt_sorted (da_cons (de_lc (own := [("_law_k", 6)]) (W' := E0W) fin_frozen rfl sc_law_names.nd (di_range1 (by rfl) T.z_range (da_cons (de_var (i := 1)) da_nil)) (blkOk_by (own := [("_law_k", 6)]) (N := n_law_names) (sc := defScope s_law_names) (by decide +kernel)) (fun _ _ _ _ _ => (dg_name (i := 6) sc_law_names.nd)) (fun _ _ _ _ _ => dts_nil) (fun _ _ _ _ _ => (de_op od_add (de_op od_add (de_var (i := 3)) (de_ix (de_var (i := 2)) (de_op od_mod (de_op od_add (de_var (i := 5)) (de_op od_mul de_int (de_var (i := 6)))) de_int))) (de_sl (de_var (i := 4)) do_none (do_some (de_op od_mod (de_var (i := 6)) de_int))))) (by decide)) da_nil))))))))
/-! _law_fields -/
abbrev s_law_fields : Stmt := top 7
abbrev n_law_fields : List Str := ["_law_bag_here", "_law_names_here", "_law_rank", "_law_sets", "_law_some", "_law_told", "_law_first", "_law_ends"]
theorem sc_law_fields : FnScope n_law_fields ["_law_bag_here"] (defScope s_law_fields) := ⟨rfl, rfl, rfl, by decide +kernel, rfl, by decide +kernel, by decide +kernel⟩
noncomputable def b_law_fields : XS := (xSeq (xAsg (xFn 2 f_law_names (xCons (xVar 0) (xCons (xC (.int 2)) xNil))) (xgName 1)) (xSeq (xAsg (xTup (xCons (xOp dAdd (xC (.int 1)) (xFn 2 f_law_take (xCons (xVar 0) (xCons (xC (.int 9)) xNil)))) (xCons (xOp dIx (xVar 1) (xC (.int 0))) xNil))) (xgName 2)) (xSeq (xAsg (xCall bTuple (xCons (xSl dSl (xLst (xCons (xTup (xCons (xOp dIx (xVar 1) (xC (.int 0))) xNil)) (xCons (xTup (xCons (xOp dIx (xVar 1) (xC (.int 1))) xNil)) (xCons (xTup (xCons (xOp dIx (xVar 1) (xC (.int 0))) (xCons (xOp dIx (xVar 1) (xC (.int 1))) xNil))) xNil)))) xNone (xSome (xFn 2 f_law_take (xCons (xVar 0) (xCons (xC (.int 4)) xNil))))) xNil)) (xgName 3)) (xSeq (xAsg (xLst (xCons (xTup (xCons (xVar 2) xNil)) (xCons (xTup (xCons (xOp dAdd (xC (.int 1)) (xFn 2 f_law_take (xCons (xVar 0) (xCons (xC (.int 9)) xNil)))) xNil)) (xCons (xTup xNil) (xCons (xTup (xCons (xVar 2) (xCons (xC (.int 1)) (xCons (xVar 3) (xCons (xTup xNil) xNil))))) (xCons (xTup (xCons (xVar 2) (xCons (xC (.int 2)) (xCons (xC (.int 7)) (xCons (xTup (xCons (xTup (xCons (xC (.int 0)) (xCons (xTup xNil) (xCons (xTup (xCons (xTup (xCons (xOp dIx (xVar 1) (xC (.int 1))) (xCons (xC (.int 1)) xNil))) xNil)) xNil)))) xNil)) xNil))))) xNil)))))) (xgName 4)) (xSeq (xAsg (xOp dIx (xLst (xCons (xC (.str "want")) (xCons (xC (.str "tell")) (xCons (xC (.str "piece")) (xCons (xC (.str "back")) (xCons (xC (.str "over")) (xCons (xC (.str "heard")) xNil))))))) (xFn 2 f_law_take (xCons (xVar 0) (xCons (xC (.int 6)) xNil)))) (xgName 5)) (xSeq (xAsg (xOp dAdd (xC (.int 1)) (xFn 2 f_law_take (xCons (xVar 0) (xCons (xOp dIx (xLst (xCons (xC (.int 3)) (xCons (xC (.int 1000)) (xCons (xOp dPow (xC (.int 10)) (xC (.int 9))) xNil)))) (xFn 2 f_law_take (xCons (xVar 0) (xCons (xC (.int 3)) xNil)))) xNil)))) (xgName 6)) (xSeq (xAsg (xOp dIx (xLst (xCons (xVar 1) (xCons (xRev (xVar 1)) xNil))) (xFn 2 f_law_take (xCons (xVar 0) (xCons (xC (.int 2)) xNil)))) (xgName 7)) (xRet (xLst (xCons (xVar 6) (xCons (xOp dIx (xVar 7) (xC (.int 0))) (xCons (xOp dIx (xVar 7) (xC (.int 1))) (xCons (xVar 5) (xCons (xOp dIx (xVar 4) (xFn 2 f_law_take (xCons (xVar 0) (xCons (xC (.int 5)) xNil)))) xNil))))))))))))))
noncomputable def f_law_fields : Fn := callB 1 8 b_law_fields
theorem ok_law_fields {P : Program} {w : World} {K : PySem.W.Frag} {mg : Str → Option Value} {base : Heap} {f : Addr} {fd : FuncData} (T : G K mg) (C_law_take : FnD P w K mg base 1 "_law_take" 2 f_law_take) (C_law_names : FnD P w K mg base 2 "_law_names" 2 f_law_names) (F : Fun K "_law_fields" "_law_fields" s_law_fields f fd) : FnOk P w K mg base CX0 3 f fd ["_law_bag_here"] (spF K mg 1 f_law_fields) :=
  fn_okE (k := 2) (body := b_law_fields) F sc_law_fields rfl rfl rfl rfl fun cdv A outer s H E W hr =>
  (dss_cons (ds_set (i := 1) sc_law_fields.nd (de_call C_law_names (hr.mono (by decide)) (by rfl) (da_cons (de_var (i := 0)) (da_cons de_int da_nil)))) (dss_cons (ds_set (i := 2) sc_law_fields.nd (de_tup (da_cons (de_op od_add de_int (de_call C_law_take (hr.mono (by decide)) (by rfl) (da_cons (de_var (i := 0)) (da_cons de_int da_nil)))) (da_cons (de_ix (de_var (i := 1)) de_int) da_nil)))) (dss_cons (ds_set (i := 3) sc_law_fields.nd (de_callTy cd_tuple (by rfl) T.z_tuple bt_tuple (da_cons (de_sl (de_lst (da_cons (de_tup (da_cons (de_ix (de_var (i := 1)) de_int) da_nil)) (da_cons (de_tup (da_cons (de_ix (de_var (i := 1)) de_int) da_nil)) (da_cons (de_tup (da_cons (de_ix (de_var (i := 1)) de_int) (da_cons (de_ix (de_var (i := 1)) de_int) da_nil))) da_nil)))) do_none (do_some (de_call C_law_take (hr.mono (by decide)) (by rfl) (da_cons (de_var (i := 0)) (da_cons de_int da_nil))))) da_nil))) (dss_cons (ds_set (i := 4) sc_law_fields.nd (de_lst (da_cons (de_tup (da_cons (de_var (i := 2)) da_nil)) (da_cons (de_tup (da_cons (de_op od_add de_int (de_call C_law_take (hr.mono (by decide)) (by rfl) (da_cons (de_var (i := 0)) (da_cons de_int da_nil)))) da_nil)) (da_cons (de_tup da_nil) (da_cons (de_tup (da_cons (de_var (i := 2)) (da_cons de_int (da_cons (de_var (i := 3)) (da_cons (de_tup da_nil) da_nil))))) (da_cons (de_tup (da_cons (de_var (i := 2)) (da_cons de_int (da_cons de_int (da_cons (de_tup (da_cons (de_tup (da_cons de_int (da_cons (de_tup da_nil) (da_cons (de_tup (da_cons (de_tup (da_cons (de_ix (de_var (i := 1)) de_int) (da_cons de_int da_nil))) da_nil)) da_nil)))) da_nil)) da_nil))))) da_nil))))))) (dss_cons (ds_set (i := 5) sc_law_fields.nd (de_ix (de_lst (da_cons de_str (da_cons de_str (da_cons de_str (da_cons de_str (da_cons de_str (da_cons de_str da_nil))))))) (de_call C_law_take (hr.mono (by decide)) (by rfl) (da_cons (de_var (i := 0)) (da_cons de_int da_nil))))) (dss_cons (ds_set (i := 6) sc_law_fields.nd (de_op od_add de_int (de_call C_law_take (hr.mono (by decide)) (by rfl) (da_cons (de_var (i := 0)) (da_cons (de_ix (de_lst (da_cons de_int (da_cons de_int (da_cons (de_op od_pow de_int de_int) da_nil)))) (de_call C_law_take (hr.mono (by decide)) (by rfl) (da_cons (de_var (i := 0)) (da_cons de_int da_nil)))) da_nil))))) (dss_cons (ds_set (i := 7) sc_law_fields.nd (de_ix (de_lst (da_cons (de_var (i := 1)) (da_cons (de_rev (de_var (i := 1))) da_nil))) (de_call C_law_take (hr.mono (by decide)) (by rfl) (da_cons (de_var (i := 0)) (da_cons de_int da_nil))))) (dss_one (ds_ret (de_lst (da_cons (de_var (i := 6)) (da_cons (de_ix (de_var (i := 7)) de_int) (da_cons (de_ix (de_var (i := 7)) de_int) (da_cons (de_var (i := 5)) (da_cons (de_ix (de_var (i := 4)) (de_call C_law_take (hr.mono (by decide)) (by rfl) (da_cons (de_var (i := 0)) (da_cons de_int da_nil)))) da_nil)))))))))))))))
/-! _law_bag -/
abbrev s_law_bag : Stmt := top 3
abbrev n_law_bag : List Str := ["_law_script", "_law_at", "_law_cell", "_law_far"]
theorem sc_law_bag : FnScope n_law_bag ["_law_script", "_law_at"] (defScope s_law_bag) := ⟨rfl, rfl, rfl, by decide +kernel, rfl, by decide +kernel, by decide +kernel⟩
noncomputable def b_law_bag : XS := (xSeq (xAsg (xOp dAdd (xOp dMul (xC (.int 6011)) (xVar 1)) (xC (.int 29))) (xgName 2)) (xSeq (xIfS (xTst (xOp dLt (xVar 1) (xCall bLen (xCons (xVar 0) xNil)))) (xAsg (xOp dIx (xVar 0) (xVar 1)) (xgName 2)) xNx) (xSeq (xAsg (xCall bAbs (xCons (xVar 2) xNil)) (xgName 3)) (xRet (xLstM (xCons (xOp dMul (xVar 3) (xCall bInt (xCons (xOp dGe (xVar 3) (xOp dPow (xC (.int 10)) (xC (.int 18)))) xNil))) (xCons (xOp dAdd (xOp dAdd (xOp dMod (xVar 2) (xC (.int 1000000000000000003))) (xOp dMul (xOp dMul (xC (.int 7919)) (xVar 1)) (xVar 1))) (xOp dMul (xC (.int 13)) (xVar 1))) (xCons (xC (.int 0)) xNil))))))))
noncomputable def f_law_bag : Fn := callB 2 4 b_law_bag
theorem ok_law_bag {P : Program} {w : World} {K : PySem.W.Frag} {mg : Str → Option Value} {base : Heap} {f : Addr} {fd : FuncData} (T : G K mg) (F : Fun K "_law_bag" "_law_bag" s_law_bag f fd) : FnOk P w K mg base CX0 1 f fd ["_law_script", "_law_at"] (spF K mg 2 f_law_bag) :=
  fn_okE (k := 0) (body := b_law_bag) F sc_law_bag rfl rfl rfl rfl fun cdv A outer s H E W hr =>
  (dss_cons (ds_set (i := 2) sc_law_bag.nd (de_op od_add (de_op od_mul de_int (de_var (i := 1))) de_int)) (dss_cons (ds_if (dt_cmp od_lt (de_var (i := 1)) (de_callB cd_len (by rfl) T.z_len bt_len (da_cons (de_var (i := 0)) da_nil)) (nomark _)) (dss_one (ds_set (i := 2) sc_law_bag.nd (de_ix (de_var (i := 0)) (de_var (i := 1))))) dss_nil) (dss_cons (ds_set (i := 3) sc_law_bag.nd (de_callB cd_abs (by rfl) T.z_abs bt_abs (da_cons (de_var (i := 2)) da_nil))) (dss_one (ds_ret (de_lstM (da_cons (de_op od_mul (de_var (i := 3)) (de_callTy cd_int (by rfl) T.z_int bt_int (da_cons (de_cmp od_ge (de_var (i := 3)) (de_op od_pow de_int de_int) (nomark _)) da_nil))) (da_cons (de_op od_add (de_op od_add (de_op od_mod (de_var (i := 2)) de_int) (de_op od_mul (de_op od_mul de_int (de_var (i := 1))) (de_var (i := 1)))) (de_op od_mul de_int (de_var (i := 1)))) (da_cons de_int da_nil)))))))))
/-! law -/
abbrev s_law : Stmt := top 11
abbrev n_law : List Str := ["_law_script", "_law_at", "_law_bag_here", "_law_some", "_law_letters", "_law_letter_here", "_law_fields_here", "_law_bare", "_law_turn"]
theorem sc_law : FnScope n_law ["_law_script"] (defScope s_law) := ⟨rfl, rfl, rfl, by decide +kernel, rfl, by decide +kernel, by decide +kernel⟩
noncomputable def b_law : XS := (xSeq (xFor (xRng (xCons (xCall bMax (xCons (xC (.int 2)) (xCons (xCall bMin (xCons (xC (.int 4)) (xCons (xCall bLen (xCons (xVar 0) xNil)) xNil))) xNil))) xNil)) (xgName 1) (xSeq (xAsg (xFn 2 f_law_bag (xCons (xVar 0) (xCons (xVar 1) xNil))) (xgName 2)) (xSeq (xAsg (xLc frozenL (xRng (xCons (xC (.int 3)) xNil)) (xgName 8) xYes (xFn 1 f_law_fields (xCons (xVar 2) xNil)) [8]) (xgName 3)) (xSeq (xAsg (xLc frozenL (xSq (xVar 3)) (xgName 6) xYes (xFn 2 f_law_letter (xCons (xVar 6) (xCons (xFn 2 f_law_take (xCons (xVar 2) (xCons (xC (.int 4)) xNil))) xNil))) [6]) (xgName 4)) (xSeq (xFor (xZip (xCons (xVar 4) (xCons (xVar 3) xNil))) (xgTup 2 (xgsCons (xgName 5) (xgsCons (xgName 6) xgsNil))) (xSeq (xIfS (xOr (xNot (xTru (xFn 2 f_law_is_of (xCons (xVar 5) (xCons (xVar 6) xNil))))) (xNot (xTru (xFn 3 f_law_alike (xCons (xVar 5) (xCons (xVar 6) (xCons (xVar 2) xNil))))))) (xRet (xC (.bl false))) xNx) (xSeq (xAsg (xFzI [] (xMakeP "Letter" 1 3 [0, 1, 2, 3, 4, 5] [.tup []] f_Letter_init (xCons (xOp dIx (xVar 6) (xC (.int 0))) xNil) (xCons (xOp dIx (xVar 6) (xC (.int 1))) (xCons (xOp dIx (xVar 6) (xC (.int 2))) (xCons (xOp dIx (xVar 6) (xC (.int 3))) xNil))))) (xgName 7)) (xIfS (xOr (xNot (xTru (xFn 2 f_law_is_of (xCons (xVar 7) (xCons (xOp dAdd (xSl dSl (xVar 6) xNone (xSome (xC (.int 4)))) (xLst (xCons (xTup xNil) xNil))) xNil))))) (xTst (xOp (eqM true) (xEqX false "Letter" f_Letter_eq (xVar 7) (xVar 5)) (xOp dEq (xOp dIx (xVar 6) (xC (.int 4))) (xTup xNil))))) (xRet (xC (.bl false))) xNx)))) (xIfS (xNot (xTru (xCall bAll (xCons (xLc frozenL (xZip (xCons (xVar 4) (xCons (xVar 3) xNil))) (xgTup 2 (xgsCons (xgName 5) (xgsCons (xgName 6) xgsNil))) xYes (xFn 2 f_law_is_of (xCons (xVar 5) (xCons (xVar 6) xNil))) [5, 6]) xNil)))) (xRet (xC (.bl false))) xNx)))))) (xRet (xC (.bl true))))
noncomputable def f_law : Fn := callB 1 9 b_law
theorem ok_law {P : Program} {w : World} {K : PySem.W.Frag} {mg : Str → Option Value} {base : Heap} {f : Addr} {fd : FuncData} (T : G K mg) (C_law_is_of : FnDG P w K mg base 4 "_law_is_of" 2 f_law_is_of) (C_sp_Letter_eq : SpD P w K mg base 1 "Letter" "__eq__" 2 f_Letter_eq) (C_mkp_Letter_1_sender_goal_word : MkP P w K mg base 1 "Letter" 1 ["sender", "goal", "word"] [0, 1, 2, 3, 4, 5] [.tup []] f_Letter_init) (C_law_alike : FnD P w K mg base 6 "_law_alike" 3 f_law_alike) (C_law_take : FnD P w K mg base 1 "_law_take" 2 f_law_take) (C_law_letter : FnD P w K mg base 3 "_law_letter" 2 f_law_letter) (C_law_fields : FnD P w K mg base 3 "_law_fields" 1 f_law_fields) (C_law_bag : FnD P w K mg base 1 "_law_bag" 2 f_law_bag) (F : Fun K "law" "law" s_law f fd) : FnOkG P w K mg base CX0 8 f fd ["_law_script"] (spF K mg 1 f_law) :=
  fnG_okE (k := 7) (body := b_law) F sc_law rfl rfl rfl rfl fun cdv A outer s H E W hg hr =>
  (dss_cons (ds_for PassesOwn.never rfl (di_range1 (by rfl) T.z_range (da_cons (de_callB (cd_max rfl) (by rfl) T.z_max bt_max (da_cons de_int (da_cons (de_callB (cd_min rfl) (by rfl) T.z_min bt_min (da_cons de_int (da_cons (de_callB cd_len (by rfl) T.z_len bt_len (da_cons (de_var (i := 0)) da_nil)) da_nil))) da_nil))) da_nil)) (dg_name (i := 1) sc_law.nd) (dss_cons (ds_set (i := 2) sc_law.nd (de_call C_law_bag (hr.mono (by decide)) (by rfl) (da_cons (de_var (i := 0)) (da_cons (de_var (i := 1)) da_nil)))) (dss_cons (ds_setLc (i := 3) (own := [("_law_turn", 8)]) (W' := E0W) fin_frozen rfl sc_law.nd (di_range1 (by rfl) T.z_range (da_cons de_int da_nil)) (blkOk_by (own := [("_law_turn", 8)]) (N := n_law) (sc := defScope s_law) (by decide +kernel)) (fun _ _ _ _ _ => (dg_name (i := 8) sc_law.nd)) (fun _ _ _ _ _ => dts_nil) (fun _ _ _ _ _ => (de_call C_law_fields (hr.mono (by decide)) (by rfl) (da_cons (de_var (i := 2)) da_nil))) (by decide)) (dss_cons (ds_setLc (i := 4) (own := [("_law_fields_here", 6)]) (W' := E0W) fin_frozen rfl sc_law.nd (di_sq (de_var (i := 3))) (blkOk_by (own := [("_law_fields_here", 6)]) (N := n_law) (sc := defScope s_law) (by decide +kernel)) (fun _ _ _ _ _ => (dg_name (i := 6) sc_law.nd)) (fun _ _ _ _ _ => dts_nil) (fun _ _ _ _ _ => (de_call C_law_letter (hr.mono (by decide)) (by rfl) (da_cons (de_var (i := 6)) (da_cons (de_call C_law_take (hr.mono (by decide)) (by rfl) (da_cons (de_var (i := 2)) (da_cons de_int da_nil))) da_nil)))) (by decide)) (dss_cons (ds_for PassesOwn.never rfl (di_zip (by rfl) T.z_zip (da_cons (de_var (i := 4)) (da_cons (de_var (i := 3)) da_nil))) (dg_tup rfl (dgs_cons (dg_name (i := 5) sc_law.nd) (dgs_cons (dg_name (i := 6) sc_law.nd) dgs_nil))) (dss_cons (ds_if (dt_w (dw_or (dt_not (dt_tru (de_callG hg C_law_is_of (hr.mono (by decide)) (by rfl) (da_cons (de_var (i := 5)) (da_cons (de_var (i := 6)) da_nil))))) (dw_or1 (dt_not (dt_tru (de_call C_law_alike (hr.mono (by decide)) (by rfl) (da_cons (de_var (i := 5)) (da_cons (de_var (i := 6)) (da_cons (de_var (i := 2)) da_nil))))))))) (dss_one (ds_ret de_bl)) dss_nil) (dss_cons (ds_set (i := 7) sc_law.nd (de_fzI (fls := []) (de_makeP C_mkp_Letter_1_sender_goal_word (hr.mono (by decide)) (by rfl) (da_cons (de_ix (de_var (i := 6)) de_int) da_nil) (dk_cons (de_ix (de_var (i := 6)) de_int) (dk_cons (de_ix (de_var (i := 6)) de_int) (dk_cons (de_ix (de_var (i := 6)) de_int) dk_nil)))))) (dss_one (ds_if (dt_w (dw_or (dt_not (dt_tru (de_callG hg C_law_is_of (hr.mono (by decide)) (by rfl) (da_cons (de_var (i := 7)) (da_cons (de_op od_add (de_sl (de_var (i := 6)) do_none (do_some de_int)) (de_lst (da_cons (de_tup da_nil) da_nil))) da_nil))))) (dw_or1 (dt_cmp (od_neM hr) (de_eqX C_sp_Letter_eq T.o_Letter (hr.mono (by decide)) (de_var (i := 7)) (de_var (i := 5)) (nomark _)) (de_cmp (od_eq2 hr) (de_ix (de_var (i := 6)) de_int) (de_tup da_nil) (nomark _)) (nomark _))))) (dss_one (ds_ret de_bl)) dss_nil))))) (dss_one (ds_if (dt_not (dt_tru (de_callB (cd_all rfl) (by rfl) T.z_all bt_all (da_cons (de_lc (own := [("_law_letter_here", 5), ("_law_fields_here", 6)]) (W' := E0W) fin_frozen rfl sc_law.nd (di_zip (by rfl) T.z_zip (da_cons (de_var (i := 4)) (da_cons (de_var (i := 3)) da_nil))) (blkOk_by (own := [("_law_letter_here", 5), ("_law_fields_here", 6)]) (N := n_law) (sc := defScope s_law) (by decide +kernel)) (fun _ _ _ _ _ => (dg_tup rfl (dgs_cons (dg_name (i := 5) sc_law.nd) (dgs_cons (dg_name (i := 6) sc_law.nd) dgs_nil)))) (fun _ _ _ _ _ => dts_nil) (fun _ _ _ _ _ => (de_callG hg C_law_is_of (hr.mono (by decide)) (by rfl) (da_cons (de_var (i := 5)) (da_cons (de_var (i := 6)) da_nil)))) (by decide)) da_nil)))) (dss_one (ds_ret de_bl)) dss_nil))))))) (dss_one (ds_ret de_bl)))
local macro_rules | `(tactic| walk_at "go") => `(tactic| first
  | with_reducible refine v_seq ?_ | with_reducible refine v_thn ?_ | with_reducible refine v_thr ?_ | with_reducible refine v_asg ?_ | with_reducible refine v_ret ?_ | with_reducible refine v_op ?_ | with_reducible refine v_cons ?_ | with_reducible refine v_nil ?_ | with_reducible refine v_call ?_ | (with_reducible refine v_var (by with_unfolding_all rfl) ?_) | with_reducible refine v_c ?_ | with_reducible refine v_tst ?_ | with_reducible refine v_tru ?_
  | with_reducible refine v_tup ?_ | with_reducible refine v_lst ?_ | with_reducible refine v_lstM ?_ | with_reducible refine v_nx ?_ | with_reducible refine v_setL ?_ | with_reducible refine v_par ?_ | with_reducible refine v_neg ?_ | with_reducible refine v_rev ?_ | with_reducible refine v_sl ?_ | with_reducible refine v_none ?_ | with_reducible refine v_some ?_ | with_reducible refine v_not ?_ | with_reducible refine v_or ?_ | with_reducible refine v_and ?_
  | with_reducible refine v_fn ?_ | with_reducible refine v_fnK ?_ | with_reducible refine v_andV ?_ | with_reducible refine v_chain ?_ | with_reducible refine v_if ?_ | with_reducible refine v_upper ?_ | with_reducible refine v_dict0 ?_ | with_reducible refine v_dict1 ?_
  | with_reducible refine Exists.intro _ (And.intro add_ii ?_) | with_reducible refine Exists.intro _ (And.intro sub_ii ?_) | with_reducible refine Exists.intro _ (And.intro lt_ii ?_) | with_reducible refine Exists.intro _ (And.intro le_ii ?_) | with_reducible refine Exists.intro _ (And.intro gt_ii ?_) | with_reducible refine Exists.intro _ (And.intro ge_ii ?_) | with_reducible refine Exists.intro _ (And.intro (Eq.refl (D.bl _)) ?_) | with_reducible refine Exists.intro _ (And.intro (Eq.refl (D.int _)) ?_) | with_reducible refine Exists.intro _ (And.intro (Eq.refl (D.str _)) ?_) | with_reducible refine Exists.intro _ (And.intro tru_b ?_) | with_reducible refine Exists.intro _ (And.intro blen_l ?_) | with_reducible refine Exists.intro _ (And.intro blen_t ?_) | with_reducible refine Exists.intro _ (And.intro blen_sc ?_)
  | (with_reducible refine And.intro (show _ ≤ 100000 by simp) ?_))
local macro_rules | `(tactic| walk_at "gos") => `(tactic| repeat walk_at "go")
/-! ### what of the memory stays -/
/-- new things alone -/
def Gr (M M' : Mem) : Prop := ∃ T, M' = M ++ T
/-- all old things but that at n stay -/
def Kp (n : Nat) (M M' : Mem) : Prop := M.length ≤ M'.length ∧ ∀ j, j < M.length → j ≠ n → M'[j]? = M[j]?
theorem Gr.refl (M : Mem) : Gr M M := ⟨[], by simp⟩
theorem Gr.trans {A B C : Mem} (h : Gr A B) (h' : Gr B C) : Gr A C := by
  obtain ⟨T, rfl⟩ := h
  obtain ⟨U, rfl⟩ := h'
  exact ⟨T ++ U, by simp⟩
theorem Gr.app (M T : Mem) : Gr M (M ++ T) := ⟨T, rfl⟩
theorem Gr.len {M M' : Mem} (h : Gr M M') : M.length ≤ M'.length := by
  obtain ⟨T, rfl⟩ := h
  simp
theorem Gr.at {M M' : Mem} (h : Gr M M') {j : Nat} {o : Ob} (e : M[j]? = some o) : M'[j]? = some o := by
  obtain ⟨T, rfl⟩ := h
  rw [List.getElem?_append_left (List.getElem?_eq_some_iff.mp e).1]
  exact e
/-- a new thing changes -/
theorem Gr.set {M M' : Mem} (h : Gr M M') {j : Nat} {o : Ob} (hj : M.length ≤ j) : Gr M (M'.set j o) := by
  obtain ⟨T, rfl⟩ := h
  refine ⟨T.set (j - M.length) o, ?_⟩
  rw [List.set_append_right _ _ hj]
theorem Gr.kp {M M' : Mem} (h : Gr M M') (n : Nat) : Kp n M M' := by
  obtain ⟨T, rfl⟩ := h
  exact ⟨by simp, fun j hj _ => List.getElem?_append_left hj⟩
theorem Kp.refl (n : Nat) (M : Mem) : Kp n M M := ⟨Nat.le_refl _, fun _ _ _ => rfl⟩
theorem Kp.trans {n : Nat} {A B C : Mem} (h : Kp n A B) (h' : Kp n B C) : Kp n A C :=
  ⟨Nat.le_trans h.1 h'.1, fun j hj hn => (h'.2 j (Nat.lt_of_lt_of_le hj h.1) hn).trans (h.2 j hj hn)⟩
theorem Kp.put (n : Nat) (M : Mem) (o : Ob) : Kp n M (M.set n o) := ⟨by simp, fun j _ hn => List.getElem?_set_ne (Ne.symm hn)⟩
theorem Kp.at {n : Nat} {M M' : Mem} (h : Kp n M M') {j : Nat} {o : Ob} (hn : j ≠ n) (e : M[j]? = some o) : M'[j]? = some o := by
  rw [h.2 j (List.getElem?_eq_some_iff.mp e).1 hn]
  exact e
/-- what is behind the old things changes -/
theorem Kp.set {n : Nat} {M M' : Mem} (h : Kp n M M') {j : Nat} {o : Ob} (hj : M.length ≤ j) : Kp n M (M'.set j o) :=
  ⟨by simpa using h.1, fun i hi hn => by rw [List.getElem?_set_ne (by omega)]; exact h.2 i hi hn⟩
def bagOb (a b c : Int) : Ob := .lst [.int a, .int b, .int c]
def BagAt (M : Mem) (n : Nat) (N : Int) : Prop := ∃ a b c, M[n]? = some (bagOb a b c) ∧ 0 ≤ b ∧ b < 2 ^ 64 ∧ 0 ≤ c ∧ c ≤ N ∧ N < 2 ^ 40
theorem pw_small {x : Int} (h : x.natAbs < 2 ^ 200) : x.natAbs < 2 ^ 10000 := Nat.lt_of_lt_of_le h (Nat.pow_le_pow_right (by decide) (by decide))
def primesD : List D := [.int 2147483647, .int 2147483629, .int 2147483587, .int 2147483579, .int 2147483563, .int 2147483549, .int 2147483543, .int 2147483497]
theorem prime_at {i : Int} (h0 : 0 ≤ i) (h1 : i < 8) : ∃ p, atI primesD i = some (.int p) ∧ 2147483000 < p ∧ p < 2147483648 := by
  obtain ⟨k, rfl⟩ := Int.eq_ofNat_of_zero_le h0
  rw [ix_nat]
  have hk : k < 8 := by omega
  match k, hk with
  | 0, _ => exact ⟨_, rfl, by decide⟩
  | 1, _ => exact ⟨_, rfl, by decide⟩
  | 2, _ => exact ⟨_, rfl, by decide⟩
  | 3, _ => exact ⟨_, rfl, by decide⟩
  | 4, _ => exact ⟨_, rfl, by decide⟩
  | 5, _ => exact ⟨_, rfl, by decide⟩
  | 6, _ => exact ⟨_, rfl, by decide⟩
  | 7, _ => exact ⟨_, rfl, by decide⟩
structure Took (k : Int) (n : Nat) (N : Int) (M : Mem) (d : D) (M' : Mem) : Prop where
  ex : ∃ r, d = .int r ∧ 0 ≤ r ∧ r < k ∧ BagAt M' n (N + 1) ∧ Kp n M M'
theorem take_ok {M : Mem} {n : Nat} {k N : Int} (h : BagAt M n N) (hN : N + 1 < 2 ^ 40) (hk : 0 < k) (hk2 : k < 1073741824) : Gv (f_law_take [.ptr n, .int k] M) fun d M' => Took k n N M d M' := by
  obtain ⟨a, b, c, hM, h0, h1, h2, h3, h4⟩ := h
  have hl : n < M.length := (List.getElem?_eq_some_iff.mp hM).1
  refine v_body rfl ?_
  unfold b_law_take
  walk_at "gos"
  refine v_ifS ?_
  walk_at "gos"
  refine ⟨.int a, by rw [ix_p hM, ix_0]; rfl, ?_⟩
  walk_at "gos"
  by_cases ha : 0 < a
  · rw [if_pos (by simpa using ha)]
    walk_at "gos"
    refine ⟨.int a, by rw [ix_p hM, ix_0]; rfl, ?_⟩
    walk_at "gos"
    refine ⟨_, mod_ii hk, ?_⟩
    walk_at "gos"
    refine ⟨.int a, by rw [ix_p hM, ix_0]; rfl, ?_⟩
    walk_at "gos"
    refine ⟨_, div_ii hk hk2, ?_⟩
    walk_at "gos"
    refine ⟨n, _, 0, 0, rfl, rfl, hM, rfl, ?_⟩
    walk_at "gos"
    refine ⟨⟨_, rfl, Int.emod_nonneg _ (by omega), Int.emod_lt_of_pos _ hk, ⟨a / k, b, c, ?_, h0, h1, h2, by omega, hN⟩, Kp.put _ _ _⟩⟩
    rw [List.getElem?_set_self hl]
    rfl
  · rw [if_neg (by simpa using ha)]
    walk_at "gos"
    refine ⟨.int c, by rw [ix_p hM, ix_2]; rfl, ?_⟩
    walk_at "gos"
    refine ⟨n, _, 2, 2, rfl, rfl, hM, rfl, ?_⟩
    have hM' : (M.set n (.lst (([.int a, .int b, .int c] : List D).set 2 (.int (c + 1)))))[n]? = some (.lst [.int a, .int b, .int (c + 1)]) := by
      rw [List.getElem?_set_self hl]
      rfl
    have hkp : Kp n M (M.set n (.lst (([.int a, .int b, .int c] : List D).set 2 (.int (c + 1))))) := Kp.put _ _ _
    generalize M.set n (.lst (([.int a, .int b, .int c] : List D).set 2 (.int (c + 1)))) = M' at hM' hkp
    walk_at "gos"
    refine ⟨.int (c + 1), by rw [ix_p hM', ix_2]; rfl, ?_⟩
    walk_at "gos"
    refine ⟨.int b, by rw [ix_p hM', ix_1]; rfl, ?_⟩
    walk_at "gos"
    refine ⟨_, mul_l (by decide) (by decide), ?_⟩
    walk_at "gos"
    refine ⟨_, mul_l (by omega) h1, ?_⟩
    walk_at "gos"
    refine ⟨_, mul_l (by decide) (by decide), ?_⟩
    walk_at "gos"
    refine ⟨_, mul_r (by omega) (by omega), ?_⟩
    walk_at "gos"
    have hp1 : b * (2 * (c + 1) + 1) ≤ 2 ^ 64 * 2 ^ 42 := Int.mul_le_mul (by omega) (by omega) (by omega) (by omega)
    have hp0 : 0 ≤ b * (2 * (c + 1) + 1) := Int.mul_nonneg h0 (by omega)
    have hp3 : 6121 * (c + 1) * (c + 1) ≤ 2 ^ 60 * 2 ^ 41 := Int.mul_le_mul (by omega) (by omega) (by omega) (by omega)
    have hp2 : 0 ≤ 6121 * (c + 1) * (c + 1) := Int.mul_nonneg (by omega) (by omega)
    generalize b * (2 * (c + 1) + 1) = u at hp0 hp1
    generalize 6121 * (c + 1) * (c + 1) = v at hp2 hp3
    refine ⟨_, pow_ii ⟨by decide, by decide, pw_small (by omega)⟩, ?_⟩
    generalize (u + v + 41) ^ Int.toNat 3 = z
    walk_at "gos"
    refine ⟨_, mod_ii (by decide), ?_⟩
    have m8 : 0 ≤ (c + 1) % 8 ∧ (c + 1) % 8 < 8 := ⟨Int.emod_nonneg _ (by decide), Int.emod_lt_of_pos _ (by decide)⟩
    have m9 : 0 ≤ (c + 1 + 3) % 8 ∧ (c + 1 + 3) % 8 < 8 := ⟨Int.emod_nonneg _ (by decide), Int.emod_lt_of_pos _ (by decide)⟩
    obtain ⟨p1, e1, q1⟩ := prime_at m8.1 m8.2
    obtain ⟨p2, e2, q2⟩ := prime_at m9.1 m9.2
    refine ⟨.int p1, by rw [ix_t]; exact e1, ?_⟩
    refine ⟨_, mod_ii (by omega), ?_⟩
    have hz : 0 ≤ z % p1 ∧ z % p1 < p1 := ⟨Int.emod_nonneg _ (by omega), Int.emod_lt_of_pos _ (by omega)⟩
    generalize z % p1 = y at hz
    walk_at "gos"
    refine ⟨_, div_ii (by decide) (by decide), ?_⟩
    walk_at "gos"
    refine ⟨_, mul_l (by omega) (by omega), ?_⟩
    walk_at "gos"
    refine ⟨_, mod_ii (by decide), ?_⟩
    refine ⟨.int p2, by rw [ix_t]; exact e2, ?_⟩
    refine ⟨_, mod_ii (by omega), ?_⟩
    walk_at "gos"
    refine ⟨_, div_ii (by decide) (by decide), ?_⟩
    walk_at "gos"
    refine ⟨_, mod_ii hk, ?_⟩
    exact ⟨⟨_, rfl, Int.emod_nonneg _ (by omega), Int.emod_lt_of_pos _ hk, ⟨a, b, c + 1, hM', h0, h1, by omega, by omega, hN⟩, hkp⟩⟩
theorem b01 (b : Bool) : -(2 ^ 64) < (if b = true then (1 : Int) else 0) ∧ (if b = true then (1 : Int) else 0) < 2 ^ 64 := by
  cases b <;> decide
theorem bag_ok {M : Mem} {ns : List Int} {k : Nat} (hk : k ≤ 1000) : Gv (f_law_bag [.scr ns, .int k] M) fun d M' => d = .ptr M.length ∧ BagAt M' M.length 0 ∧ Gr M M' := by
  refine v_body rfl ?_
  unfold b_law_bag
  walk_at "gos"
  refine ⟨_, mul_l (by decide) (by decide), ?_⟩
  walk_at "gos"
  refine Gv.imp (P := fun fl M1 => (∃ cell : Int, fl = Fl.nx [some (D.scr ns), some (D.int k), some (D.int cell), none]) ∧ M1 = M) (v_ifS ?_) ?_
  · walk_at "gos"
    by_cases h : k < ns.length
    · rw [if_pos (by simpa using h)]
      walk_at "gos"
      refine ⟨_, by rw [ix_sc, ix_nat, List.getElem?_eq_getElem h]; rfl, ?_⟩
      exact ⟨⟨_, rfl⟩, rfl⟩
    · rw [if_neg (by simpa using h)]
      walk_at "gos"
      exact ⟨⟨_, rfl⟩, rfl⟩
  · rintro _ _ ⟨⟨cell, rfl⟩, rfl⟩
    walk_at "gos"
    refine ⟨_, babs, ?_⟩
    walk_at "gos"
    refine ⟨_, pow_ii ⟨by decide, by decide, pw_small (by decide)⟩, ?_⟩
    walk_at "gos"
    refine ⟨_, bint_b, ?_⟩
    refine ⟨_, mul_r (b01 _).1 (b01 _).2, ?_⟩
    walk_at "gos"
    refine ⟨_, mod_ii (by decide), ?_⟩
    walk_at "gos"
    refine ⟨_, mul_l (by decide) (by decide), ?_⟩
    walk_at "gos"
    refine ⟨_, mul_r (by omega) (by omega), ?_⟩
    walk_at "gos"
    refine ⟨_, mul_l (by decide) (by decide), ?_⟩
    walk_at "gos"
    refine ⟨rfl, ⟨_, _, _, by rw [List.getElem?_append_right (Nat.le_refl _)]; simp; rfl, ?_, ?_, by decide, by decide, by decide⟩, Gr.app _ _⟩
    · have h1 : 0 ≤ cell % 1000000000000000003 := Int.emod_nonneg _ (by decide)
      have h2 : 0 ≤ 7919 * (k : Int) * (k : Int) := Int.mul_nonneg (by omega) (by omega)
      omega
    · have h1 : cell % 1000000000000000003 < 1000000000000000003 := Int.emod_lt_of_pos _ (by decide)
      have h2 : 7919 * (k : Int) * (k : Int) ≤ 7919000 * 1000 := Int.mul_le_mul (by omega) (by omega) (by omega) (by omega)
      omega
theorem BagAt.gr {M M' : Mem} {n : Nat} {N : Int} (h : BagAt M n N) (g : Gr M M') : BagAt M' n N := by
  obtain ⟨a, b, c, hM, r⟩ := h
  exact ⟨a, b, c, g.at hM, r⟩
theorem BagAt.set {M : Mem} {n m : Nat} {N : Int} {o : Ob} (h : BagAt M n N) (hm : m ≠ n) : BagAt (M.set m o) n N := by
  obtain ⟨a, b, c, hM, r⟩ := h
  exact ⟨a, b, c, by rw [List.getElem?_set_ne hm]; exact hM, r⟩
theorem BagAt.up {M : Mem} {n : Nat} {N N' : Int} (h : BagAt M n N) (h1 : N ≤ N') (h2 : N' < 2 ^ 40) : BagAt M n N' := by
  obtain ⟨a, b, c, hM, h0, h1', h2', h3, h4⟩ := h
  exact ⟨a, b, c, hM, h0, h1', h2', by omega, h2⟩
def abcL : List Nat := ("abcdefghijklmnopqrstuvwxyz" : Str).cps.toList
/-- letters alone -/
def Lett (s : Str) : Prop := ∀ c ∈ s.cps.toList, c ∈ abcL
theorem lett_one {c : Nat} (h : c ∈ ("abcdefghijklmnopqrstuvwxyz" : Str).cps.toList) : Lett ⟨#[c]⟩ := fun d hd => by
  have : d = c := by simpa using hd
  subst this
  exact h
/-- so many signs drawn -/
theorem signs_ok {M : Mem} {n : Nat} {N : Int} {m : Nat} {η : Dv} (h : BagAt M n N) (hN : N + m < 2 ^ 40) (h0 : η[0]? = some (some (.ptr n))) (h2 : η[2]? = some (some (.str "abcdefghijklmnopqrstuvwxyz"))) :
    Gv (xLcL (xgName 6) xYes (xOp dIx (xVar 2) (xFn 2 f_law_take (xCons (xVar 0) (xCons (xC (.int 26)) xNil)))) ((List.range m).map fun i => .int (i : Nat)) η M) fun r M1 => (∃ ss : List Str, r = ss.map D.str ∧ ss.length = m ∧ (∀ s ∈ ss, s.length = 1) ∧ ∀ s ∈ ss, Lett s) ∧ BagAt M1 n (N + m) ∧ Kp n M M1 := by
  refine (v_lcL (fun rest acc M1 => ∃ ss : List Str, acc = ss.map D.str ∧ ss.length + rest.length = m ∧ (∀ s ∈ ss, s.length = 1) ∧ (∀ s ∈ ss, Lett s) ∧ BagAt M1 n (N + ss.length) ∧ Kp n M M1) _ ?_ [] ⟨[], rfl, by simp, by simp, by simp, by simpa using h, Kp.refl _ _⟩).imp ?_
  · rintro d r acc M1 ⟨ss, rfl, hl, hs, hq, hb, kp⟩
    refine v_gn (v_yes ?_)
    rw [if_pos rfl]
    simp only [List.length_cons] at hl
    refine v_op (v_var (by rw [List.getElem?_set_ne (by decide)]; exact h2) ?_)
    refine v_fn (v_cons (v_var (by rw [List.getElem?_set_ne (by decide)]; exact h0) (v_cons (v_c (v_nil ⟨rfl, ?_⟩)))))
    refine (take_ok hb (by omega) (by decide) (by decide)).imp ?_
    rintro _ M2 ⟨⟨x, rfl, x0, x1, hb2, kp2⟩⟩
    obtain ⟨c, e, hcm⟩ := ix_in (l := ("abcdefghijklmnopqrstuvwxyz" : Str).cps.toList) x0 x1
    refine ⟨.str ⟨#[c]⟩, by rw [ix_s (by decide), e]; rfl, ?_⟩
    refine ⟨ss ++ [⟨#[c]⟩], by simp, by simp; omega, ?_, ?_, ?_, kp.trans kp2⟩
    · intro s hs'
      rcases List.mem_append.mp hs' with q | q
      · exact hs s q
      · simp at q; subst q; rfl
    · intro s hs'
      rcases List.mem_append.mp hs' with q | q
      · exact hq s q
      · rw [List.mem_singleton.mp q]
        exact lett_one hcm
    · have : N + ((ss ++ [(⟨#[c]⟩ : Str)]).length : Int) = N + ss.length + 1 := by simp; omega
      rw [this]; exact hb2
  · rintro r M1 ⟨ss, e, hl, hs, hq, hb, kp⟩
    simp at hl
    simp at e
    subst e
    exact ⟨⟨ss, rfl, hl, hs, hq⟩, by rw [← hl]; exact hb, kp⟩
theorem join_len {ss : List Str} (h : ∀ s ∈ ss, s.length = 1) : (Txt.join "" ss).length = ss.length := by
  show (Builtin.Str.glued "" ss).length = _
  rw [PySem.size_glued]
  have e : ((("" : Str)).length) = 0 := rfl
  rw [e, Nat.mul_zero, Nat.add_zero]
  induction ss with
  | nil => rfl
  | cons a l ih =>
    rw [List.map_cons, List.sum_cons, h a (List.mem_cons_self ..), ih fun s hs => h s (List.mem_cons_of_mem _ hs), List.length_cons]
    omega
theorem sum_len {ss : List Str} (h : ∀ s ∈ ss, s.length = 1) : (ss.map fun (q : Str) => q.length).sum = ss.length := by
  induction ss with
  | nil => rfl
  | cons a l ih =>
    rw [List.map_cons, List.sum_cons, h a (List.mem_cons_self ..), ih fun s hs => h s (List.mem_cons_of_mem _ hs), List.length_cons]
    omega
theorem join_cap {ss : List Str} (h : ∀ s ∈ ss, s.length = 1) (h1 : ss.length ≤ 1000) : (ss.map fun (q : Str) => q.length).sum + ss.length * ("" : Str).length ≤ 16777216 := by
  have e : ("" : Str).length = 0 := rfl
  rw [sum_len h, e]
  omega
theorem len_append (s t : Str) : (s ++ t).length = s.length + t.length := by
  show (s.cps ++ t.cps).size = s.cps.size + t.cps.size
  exact Array.size_append
theorem abc_nodup : abcL.Nodup := by decide +kernel
theorem abc_len : abcL.length = 26 := by decide +kernel
theorem cps_append (s t : Str) : (s ++ t).cps.toList = s.cps.toList ++ t.cps.toList := by
  show (s.cps ++ t.cps).toList = _
  simp
theorem lt_cps : ∀ a b : List Nat, PySem.Spec.ltCps a b = decide (a < b)
  | [], [] => by simp [PySem.Spec.ltCps]
  | [], _ :: _ => by simp [PySem.Spec.ltCps]
  | _ :: _, [] => by simp [PySem.Spec.ltCps]
  | a :: r, b :: t => by
    have ih := lt_cps r t
    simp only [PySem.Spec.ltCps, ih]
    rw [Bool.eq_iff_iff]
    simp [List.cons_lt_cons_iff]
theorem names_nodup {ss : List Str} {fi : Int} {p : Nat} (hl : ss.length ≤ 26) (h : ∀ (q : Nat) (s : Str), ss[q]? = some s → s.cps.toList[p]? = abcL[((fi + 5 * (q : Int)) % 26).toNat]?) : ss.Nodup := by
  rw [List.Nodup, List.pairwise_iff_getElem]
  intro i j hi hj hij e
  have h1 := h i _ (List.getElem?_eq_getElem hi)
  have h2 := h j _ (List.getElem?_eq_getElem hj)
  rw [e, h2] at h1
  have b1 : ((fi + 5 * (i : Int)) % 26).toNat < abcL.length := by rw [abc_len]; omega
  have b2 : ((fi + 5 * (j : Int)) % 26).toNat < abcL.length := by rw [abc_len]; omega
  rw [List.getElem?_eq_getElem b1, List.getElem?_eq_getElem b2] at h1
  have := (List.getElem_inj abc_nodup).mp (Option.some.inj h1)
  omega
/-- no name is empty, or stands ahead in another one -/
def PfN (ss : List Str) : Prop := (∀ a ∈ ss, a ≠ "") ∧ ∀ a ∈ ss, ∀ b ∈ ss, ∀ t, b = a ++ t → b = a
theorem names_pfx {ss : List Str} {fi : Int} {p : Nat} (hl : ss.length ≤ 26) (h : ∀ (q : Nat) (s : Str), ss[q]? = some s → s.cps.toList[p]? = abcL[((fi + 5 * (q : Int)) % 26).toNat]?) : PfN ss := by
  refine ⟨fun a ha e => ?_, fun a ha b hb t e => ?_⟩
  · obtain ⟨i, hi, ea⟩ := List.mem_iff_getElem.mp ha
    have h1 := h i a (by rw [List.getElem?_eq_getElem hi, ea])
    have b1 : ((fi + 5 * (i : Int)) % 26).toNat < abcL.length := by rw [abc_len]; omega
    rw [List.getElem?_eq_getElem b1, e] at h1
    have := (List.getElem?_eq_some_iff.mp h1).1
    have h0 : ("" : Str).cps.toList.length = 0 := by decide +kernel
    omega
  obtain ⟨i, hi, ea⟩ := List.mem_iff_getElem.mp ha
  obtain ⟨j, hj, eb⟩ := List.mem_iff_getElem.mp hb
  have h1 := h i a (by rw [List.getElem?_eq_getElem hi, ea])
  have h2 := h j b (by rw [List.getElem?_eq_getElem hj, eb])
  have b1 : ((fi + 5 * (i : Int)) % 26).toNat < abcL.length := by rw [abc_len]; omega
  have b2 : ((fi + 5 * (j : Int)) % 26).toNat < abcL.length := by rw [abc_len]; omega
  rw [List.getElem?_eq_getElem b1] at h1
  have hp := (List.getElem?_eq_some_iff.mp h1).1
  rw [e, cps_append, List.getElem?_append_left hp, h1, List.getElem?_eq_getElem b2] at h2
  have := (List.getElem_inj abc_nodup).mp (Option.some.inj h2)
  have hij : i = j := by omega
  subst hij
  rw [← ea, ← eb]
theorem srt_up {ss : List Str} (h : ss.Nodup) : (srt ss).Pairwise fun a b => a.cps.toList < b.cps.toList := by
  have h1 : (srt ss).Pairwise fun a b => leS a b = true := List.pairwise_mergeSort (le := leS) leS_trans leS_total ss
  have h2 : (srt ss).Pairwise fun a b => a ≠ b := (srt_perm ss).nodup_iff.mpr h
  refine (h1.and h2).imp fun {a b} ⟨q1, q2⟩ => ?_
  unfold leS at q1
  by_cases hc : PySem.Spec.ltCps a.cps.toList b.cps.toList = true
  · rw [lt_cps] at hc
    simpa using hc
  · exact absurd (PySem.W.str_of_cps (ltCps_anti _ _ (by simpa using hc) (by simpa using q1))) q2
/-- a name -/
def Nm (s : Str) : Prop := 1 ≤ s.length ∧ s.length ≤ 8 ∧ Lett s
theorem lett_app {s t : Str} (h : Lett s) (h' : Lett t) : Lett (s ++ t) := fun c hc => by
  rw [cps_append] at hc
  rcases List.mem_append.mp hc with hc | hc
  · exact h c hc
  · exact h' c hc
theorem join_sub : ∀ {l : List (List Nat)} {c : Nat}, c ∈ TL.joinL [] l → ∃ x ∈ l, c ∈ x
  | [], c, h => by simp [TL.joinL] at h
  | [x], c, h => by simp [TL.joinL] at h; exact ⟨x, by simp, h⟩
  | x :: y :: l, c, h => by
    simp only [TL.joinL, List.nil_append, List.append_nil, List.mem_append] at h
    rcases h with h | h
    · exact ⟨x, by simp, h⟩
    · obtain ⟨z, hz, hc⟩ := join_sub (l := y :: l) h
      exact ⟨z, List.mem_cons_of_mem _ hz, hc⟩
theorem lett_join {ss : List Str} (h : ∀ s ∈ ss, Lett s) : Lett (Txt.join "" ss) := fun c hc => by
  rw [TL.join_eq] at hc
  have hc' : c ∈ TL.tl (Str.join "" ss) := hc
  rw [TL.tl_join] at hc'
  obtain ⟨x, hx, hc2⟩ := join_sub hc'
  obtain ⟨s, hs, rfl⟩ := List.mem_map.mp hx
  exact h s hs c hc2
theorem lett_cut {s : Str} {a b : Option Int} (h : Lett s) : Lett (cutS s a b) := fun c hc => h c (by
  have : (cutS s a b).cps.toList = List.take (HT.sIx s.length s.length b - HT.sIx s.length 0 a) (List.drop (HT.sIx s.length 0 a) s.cps.toList) := by simp [cutS]
  rw [this] at hc
  exact List.mem_of_mem_drop (List.mem_of_mem_take hc))
def NamesPf (k : Nat) (d : D) : Prop := ∃ ss : List Str, d = .lst (ss.map D.str) ∧ ss.length = k ∧ (∀ s ∈ ss, s.length ≤ 8) ∧ (ss.Pairwise fun a b => a.cps.toList < b.cps.toList) ∧ PfN ss ∧ ∀ s ∈ ss, Nm s
theorem names_pf {M : Mem} {n : Nat} {N : Int} {k : Nat} (h : BagAt M n N) (hN : N + 10 < 2 ^ 40) (hk : k ≤ 26) : Gv (f_law_names [.ptr n, .int k] M) fun d M' => NamesPf k d ∧ BagAt M' n (N + 10) ∧ Kp n M M' := by
  refine v_body rfl ?_
  unfold b_law_names
  walk_at "gos"
  refine v_join (v_c ⟨_, rfl, v_lc (v_rng ?_)⟩)
  walk_at "gos"
  refine ⟨rfl, (take_ok h (by omega) (by decide) (by decide)).imp ?_⟩
  rintro _ M1 ⟨⟨x, rfl, x0, x1, hb1, kp1⟩⟩
  walk_at "gos"
  obtain ⟨m1, rfl⟩ := Int.eq_ofNat_of_zero_le x0
  refine ⟨m1, rfl, by omega, by simp; omega, (signs_ok hb1 (by omega) rfl rfl).imp ?_⟩
  rintro _ M2 ⟨⟨ss1, rfl, l1, u1, v1⟩, hb2, kp2⟩
  refine ⟨ss1, rfl, join_cap u1 (by omega), ?_⟩
  have jl1 := join_len u1
  have jt1 := lett_join v1
  generalize Txt.join "" ss1 = ahead at jl1 jt1
  walk_at "gos"
  refine v_join (v_c ⟨_, rfl, v_lc (v_rng ?_)⟩)
  walk_at "gos"
  refine ⟨rfl, (take_ok hb2 (by omega) (by decide) (by decide)).imp ?_⟩
  rintro _ M3 ⟨⟨x, rfl, x0, x1, hb3, kp3⟩⟩
  walk_at "gos"
  obtain ⟨m2, rfl⟩ := Int.eq_ofNat_of_zero_le x0
  refine ⟨m2, rfl, by omega, by simp; omega, (signs_ok hb3 (by omega) rfl rfl).imp ?_⟩
  rintro _ M4 ⟨⟨ss2, rfl, l2, u2, v2⟩, hb4, kp4⟩
  refine ⟨ss2, rfl, join_cap u2 (by omega), ?_⟩
  have jl2 := join_len u2
  have jt2 := lett_join v2
  generalize Txt.join "" ss2 = behind at jl2 jt2
  walk_at "gos"
  refine ⟨rfl, (take_ok hb4 (by omega) (by decide) (by decide)).imp ?_⟩
  rintro _ M5 ⟨⟨fi, rfl, f0, f1, hb5, kp5⟩⟩
  walk_at "gos"
  refine v_lc (v_rng ?_)
  walk_at "gos"
  refine ⟨k, rfl, by omega, by simp; omega, ?_⟩
  refine (v_lcL (fun rest acc M1 => ∃ ss : List Str, acc = ss.map D.str ∧ ss.length + rest.length = k ∧ (∀ s ∈ ss, Nm s) ∧ M1 = M5 ∧ (∀ (q : Nat) (d : D), rest[q]? = some d → d = .int ((ss.length + q : Nat) : Int)) ∧
      ∀ (q : Nat) (s : Str), ss[q]? = some s → s.cps.toList[ahead.length]? = abcL[((fi + 5 * (q : Int)) % 26).toNat]?) _ ?_ [] ⟨[], rfl, by simp, by simp, rfl, ?_, by simp⟩).imp ?_
  · rintro d r acc M1 ⟨ss, rfl, hl, hs, rfl, hr, hq⟩
    obtain rfl : d = .int ((ss.length : Nat) : Int) := by simpa using hr 0 d rfl
    have hj : ss.length < 26 := by simp at hl; omega
    generalize ej : ss.length = j at hj
    refine v_gn (v_yes ?_)
    rw [if_pos rfl]
    walk_at "gos"
    refine ⟨_, mul_l (by decide) (by decide), ?_⟩
    walk_at "gos"
    refine ⟨_, mod_ii (by decide), ?_⟩
    obtain ⟨c, e, hcm⟩ := ix_in (l := ("abcdefghijklmnopqrstuvwxyz" : Str).cps.toList) (i := (fi + 5 * (j : Int)) % 26) (Int.emod_nonneg _ (by decide)) (Int.emod_lt_of_pos _ (by decide))
    refine ⟨.str ⟨#[c]⟩, by rw [ix_s (by decide), e]; rfl, ?_⟩
    have ec : abcL[((fi + 5 * (j : Int)) % 26).toNat]? = some c := by
      have h0 : 0 ≤ (fi + 5 * (j : Int)) % 26 := Int.emod_nonneg _ (by decide)
      have e2 := e
      rw [show (fi + 5 * (j : Int)) % 26 = ((((fi + 5 * (j : Int)) % 26).toNat : Nat) : Int) by omega, ix_nat] at e2
      exact e2
    have lc : (⟨#[c]⟩ : Str).length = 1 := rfl
    have lcc : (⟨#[c]⟩ : Str).cps.toList = [c] := rfl
    have ltc : Lett ⟨#[c]⟩ := lett_one hcm
    generalize (⟨#[c]⟩ : Str) = cs at lc lcc ltc
    refine ⟨_, add_ss (small_line (by omega)), ?_⟩
    walk_at "gos"
    refine ⟨_, mod_ii (by decide), ?_⟩
    walk_at "gos"
    refine ⟨_, sl_s (small_line (by omega)), ?_⟩
    have cl : (cutS behind none (some ((j : Int) % 4))).length ≤ behind.length := cutS_length _ _ _
    refine ⟨_, add_ss (small_line (by rw [len_append]; omega)), ?_⟩
    refine ⟨ss ++ [ahead ++ cs ++ cutS behind none (some ((j : Int) % 4))], by simp, by simp at hl ⊢; omega, ?_, rfl, ?_, ?_⟩
    · intro s hs'
      rcases List.mem_append.mp hs' with q | q
      · exact hs s q
      · simp at q
        subst q
        refine ⟨by rw [len_append, len_append]; omega, by rw [len_append, len_append]; omega, lett_app (lett_app jt1 ltc) (lett_cut jt2)⟩
    · intro q d hd
      have := hr (q + 1) d (by simpa using hd)
      rw [this, List.length_append, List.length_singleton]
      congr 2
      omega
    · intro q s hs'
      by_cases hlt : q < ss.length
      · rw [List.getElem?_append_left hlt] at hs'
        exact hq q s hs'
      · rw [List.getElem?_append_right (by omega)] at hs'
        have hz : q - ss.length = 0 := by
          have := (List.getElem?_eq_some_iff.mp hs').1
          simp at this
          omega
        rw [hz] at hs'
        simp at hs'
        subst hs'
        have eq : q = j := by omega
        subst eq
        rw [ec, cps_append, cps_append, lcc]
        have hla : ahead.length = ahead.cps.toList.length := by rw [Array.length_toList]; rfl
        rw [List.append_assoc, List.getElem?_append_right (by omega), hla]
        simp
  · intro q d hd
    rw [List.getElem?_map] at hd
    cases hq : (List.range k)[q]? with
    | none => rw [hq] at hd; cases hd
    | some z =>
      rw [hq] at hd
      have : z = q := by
        have := (List.getElem?_eq_some_iff.mp hq).2
        simpa using this.symm
      subst this
      simp at hd
      rw [← hd]
      simp
  · rintro r M1 ⟨ss, e, hl, hs, rfl, _, hq⟩
    simp at e hl
    subst e
    walk_at "gos"
    refine ⟨_, bsorted (by omega), ⟨srt ss, rfl, by rw [(srt_perm ss).length_eq]; exact hl, fun s q => (hs s ((srt_perm ss).mem_iff.mp q)).2.1, srt_up (names_nodup (by omega) hq), ⟨fun a ha => (names_pfx (by omega) hq).1 a ((srt_perm ss).mem_iff.mp ha), fun a ha b hb => (names_pfx (by omega) hq).2 a ((srt_perm ss).mem_iff.mp ha) b ((srt_perm ss).mem_iff.mp hb)⟩, fun s q => hs s ((srt_perm ss).mem_iff.mp q)⟩, hb5.up (by omega) (by omega), (((kp1.trans kp2).trans kp3).trans kp4).trans kp5⟩
/-! ### k21: data that is shown and compared -/
section
open TL
theorem tl_numT {i : Int} (h : 0 ≤ i) : tl (toString i : Str) = numL i.toNat := by
  obtain ⟨n, rfl⟩ := Int.eq_ofNat_of_zero_le h
  exact tl_num n
theorem len_num {i : Int} (h0 : 0 ≤ i) (h1 : i < 10 ^ 12) : (toString i : Str).length ≤ 12 := by
  rw [len_tl, tl_numT h0]
  exact numL_len (by decide) (by omega)
theorem num_log {i : Int} (h0 : 0 ≤ i) (h1 : i < 10 ^ 12) : i.natAbs.log2 < 40 := by
  have h2 : i.natAbs < 2 ^ 40 := by omega
  by_cases hz : i.natAbs = 0
  · rw [hz]; decide
  · exact (Nat.log2_lt hz).mpr h2
end
mutual
def nob : PyData → Bool
  | .bool _ => false
  | .dict _ => false
  | .list xs => nobs xs
  | .tuple xs => nobs xs
  | .none => true
  | .int _ => true
  | .str _ => true
def nobs : List PyData → Bool
  | [] => true
  | x :: xs => nob x && nobs xs
end
mutual
theorem eqv_eq : ∀ (p q : PyData), nob p = true → nob q = true → (PyData.eqv p q = true ↔ p = q)
  | .none, q, _, hq => by cases q <;> simp_all [PyData.eqv, nob]
  | .int i, q, _, hq => by cases q <;> simp_all [PyData.eqv, nob]
  | .str s, q, _, hq => by cases q <;> simp_all [PyData.eqv, nob]
  | .bool _, _, h, _ => by simp [nob] at h
  | .dict _, _, h, _ => by simp [nob] at h
  | .list xs, q, hp, hq => by
    cases q with
    | list ys =>
      simp only [PyData.eqv, PyData.list.injEq]
      exact eqv_eqs xs ys (by simpa [nob] using hp) (by simpa [nob] using hq)
    | _ => simp_all [PyData.eqv, nob]
  | .tuple xs, q, hp, hq => by
    cases q with
    | tuple ys =>
      simp only [PyData.eqv, PyData.tuple.injEq]
      exact eqv_eqs xs ys (by simpa [nob] using hp) (by simpa [nob] using hq)
    | _ => simp_all [PyData.eqv, nob]
theorem eqv_eqs : ∀ (xs ys : List PyData), nobs xs = true → nobs ys = true → (PyData.eqvAll xs ys = true ↔ xs = ys)
  | [], [], _, _ => by simp [PyData.eqvAll]
  | [], _ :: _, _, _ => by simp [PyData.eqvAll]
  | _ :: _, [], _, _ => by simp [PyData.eqvAll]
  | x :: xs, y :: ys, hp, hq => by
    simp only [nobs, Bool.and_eq_true] at hp hq
    simp only [PyData.eqvAll, Bool.and_eq_true, List.cons.injEq, eqv_eq x y hp.1 hq.1, eqv_eqs xs ys hp.2 hq.2]
end
mutual
theorem pyD_eq (M : Mem) : ∀ d : D, pyD M d = toP d
  | .non => by simp only [pyD, toP]
  | .bl _ => by simp only [pyD, toP]
  | .int _ => by simp only [pyD, toP]
  | .str _ => by simp only [pyD, toP]
  | .lst ds => by simp only [pyD, toP, pyDs_eq M ds]
  | .tup ds => by simp only [pyD, toP, pyDs_eq M ds]
  | .dct _ => by simp only [pyD, toP]
  | .dcT _ => by simp only [pyD, toP]
  | .ins _ _ => by simp only [pyD, toP]
  | .fn _ => by simp only [pyD, toP]
  | .scr _ => by simp only [pyD, toP]
  | .ptr _ => by simp only [pyD, toP]
  | .raw _ => by simp only [pyD, toP]
theorem pyDs_eq (M : Mem) : ∀ ds : List D, pyDs M ds = toPs ds
  | [] => by simp only [pyDs, toPs]
  | d :: ds => by simp only [pyDs, toPs, pyD_eq M d, pyDs_eq M ds]
end
structure Sh (d w : Nat) (p : PyData) : Prop where
  sh : p.showable = true
  hd : p.hasDict = false
  dp : p.depth ≤ d
  ls : p.leavesShort 13 = true
  wt : p.weight ≤ w
  nb : nob p = true
theorem Sh.up {d w d' w' : Nat} {p : PyData} (h : Sh d w p) (hd : d ≤ d') (hw : w ≤ w') : Sh d' w' p := ⟨h.sh, h.hd, Nat.le_trans h.dp hd, h.ls, Nat.le_trans h.wt hw, h.nb⟩
theorem Sh.str {s : Str} {w : Nat} (hc : ∀ c ∈ s.cps.toList, c < 16 ^ 8) (hl : s.length ≤ w) : Sh 0 w (.str s) :=
  ⟨by simp only [PyData.showable], by simp only [PyData.hasDict], by simp only [PyData.depth]; omega, by simp only [PyData.leavesShort, List.all_eq_true, decide_eq_true_eq]; exact hc, by simp only [PyData.weight]; exact hl, by simp only [nob]⟩
theorem Sh.int {i : Int} (h0 : 0 ≤ i) (h1 : i < 10 ^ 12) : Sh 0 41 (.int i) :=
  ⟨by simp only [PyData.showable]; exact decide_eq_true (Nat.lt_trans (num_log h0 h1) (by decide)), by simp only [PyData.hasDict], by simp only [PyData.depth]; omega, by
    have e : PyData.shown (.int i) = (toString i : Str) := by
      simp only [PyData.shown]
    have := len_num h0 h1
    rw [PyData.leavesShort, e]
    exact decide_eq_true (by omega), by
    have := num_log h0 h1
    simp only [PyData.weight]
    split <;> omega, by simp only [nob]⟩
theorem Sh.all {d w : Nat} : ∀ {ps : List PyData}, (∀ p ∈ ps, Sh d w p) → PyData.showableAll ps = true ∧ PyData.hasDictAll ps = false ∧ PyData.depthAll ps ≤ d ∧ PyData.leavesShortAll 13 ps = true ∧ PyData.weightAll ps ≤ ps.length * (w + 1) ∧ nobs ps = true
  | [], _ => ⟨by simp only [PyData.showableAll], by simp only [PyData.hasDictAll], by simp only [PyData.depthAll]; omega, by simp only [PyData.leavesShortAll], by simp only [PyData.weightAll]; omega, by simp only [nobs]⟩
  | p :: ps, h => by
    obtain ⟨h1, h2, h3, h4, h5, h6⟩ := Sh.all fun q hq => h q (List.mem_cons_of_mem _ hq)
    have h0 := h p (List.mem_cons_self ..)
    have d0 := h0.dp
    have w0 := h0.wt
    refine ⟨by simp only [PyData.showableAll, h0.sh, h1, Bool.and_self], by simp only [PyData.hasDictAll, h0.hd, h2, Bool.or_self], by simp only [PyData.depthAll]; omega, by simp only [PyData.leavesShortAll, h0.ls, h4, Bool.and_self], ?_, by simp only [nobs, h0.nb, h6, Bool.and_self]⟩
    simp only [PyData.weightAll, List.length_cons, Nat.succ_mul]
    omega
theorem Sh.tup {d w k : Nat} {ps : List PyData} (h : ∀ p ∈ ps, Sh d w p) (hk : ps.length ≤ k) : Sh (d + 1) (k * (w + 1)) (.tuple ps) := by
  obtain ⟨h1, h2, h3, h4, h5, h6⟩ := Sh.all h
  exact ⟨by simpa only [PyData.showable] using h1, by simpa only [PyData.hasDict] using h2, by simp only [PyData.depth]; omega, by simpa only [PyData.leavesShort] using h4, by
    simp only [PyData.weight]
    exact Nat.le_trans h5 (Nat.mul_le_mul_right _ hk), by simpa only [nob] using h6⟩
theorem Sh.lst {d w k : Nat} {ps : List PyData} (h : ∀ p ∈ ps, Sh d w p) (hk : ps.length ≤ k) : Sh (d + 1) (k * (w + 1)) (.list ps) := by
  obtain ⟨h1, h2, h3, h4, h5, h6⟩ := Sh.all h
  exact ⟨by simpa only [PyData.showable] using h1, by simpa only [PyData.hasDict] using h2, by simp only [PyData.depth]; omega, by simpa only [PyData.leavesShort] using h4, by
    simp only [PyData.weight]
    exact Nat.le_trans h5 (Nat.mul_le_mul_right _ hk), by simpa only [nob] using h6⟩
/-- data, down to the innermost -/
def Pd (d w : Nat) (x : D) : Prop := ∃ p, toP x = some p ∧ Sh d w p
theorem Pd.up {d w d' w' : Nat} {x : D} (h : Pd d w x) (hd : d ≤ d') (hw : w ≤ w') : Pd d' w' x := let ⟨p, e, q⟩ := h; ⟨p, e, q.up hd hw⟩
theorem pd_all {d w : Nat} : ∀ {l : List D}, (∀ x ∈ l, Pd d w x) → ∃ ps, toPs l = some ps ∧ ps.length = l.length ∧ ∀ p ∈ ps, Sh d w p
  | [], _ => ⟨[], by simp [toPs], rfl, fun p hp => by cases hp⟩
  | a :: l, h => by
    obtain ⟨p, e, q⟩ := h a List.mem_cons_self
    obtain ⟨ps, es, hl, qs⟩ := pd_all (l := l) fun x hx => h x (List.mem_cons_of_mem _ hx)
    refine ⟨p :: ps, by simp [toPs, e, es], by simp [hl], fun x hx => ?_⟩
    rcases List.mem_cons.mp hx with rfl | z
    · exact q
    · exact qs x z
theorem pd_tup {d w k : Nat} {l : List D} (h : ∀ x ∈ l, Pd d w x) (hk : l.length ≤ k) : Pd (d + 1) (k * (w + 1)) (.tup l) := by
  obtain ⟨ps, e, hl, q⟩ := pd_all h
  exact ⟨.tuple ps, by simp [toP, e], Sh.tup q (by omega)⟩
theorem pd_lst {d w k : Nat} {l : List D} (h : ∀ x ∈ l, Pd d w x) (hk : l.length ≤ k) : Pd (d + 1) (k * (w + 1)) (.lst l) := by
  obtain ⟨ps, e, hl, q⟩ := pd_all h
  exact ⟨.list ps, by simp [toP, e], Sh.lst q (by omega)⟩
theorem pd_str {s : Str} {d w : Nat} (hc : ∀ c ∈ s.cps.toList, c < 16 ^ 8) (hl : s.length ≤ w) : Pd d w (.str s) := Pd.up ⟨.str s, by simp [toP], Sh.str hc hl⟩ (Nat.zero_le _) (Nat.le_refl _)
theorem abc_in : ∀ c ∈ abcL, 97 ≤ c ∧ c ≤ 122 := by decide +kernel
theorem pd_nm {s : Str} {d w : Nat} (h : Nm s) (hw : 8 ≤ w) : Pd d w (.str s) := pd_str (fun c hc => by have := abc_in c (h.2.2 c hc); omega) (Nat.le_trans h.2.1 hw)
theorem pd_int {i : Int} {d w : Nat} (h0 : 0 ≤ i) (h1 : i < 10 ^ 12) (hw : 41 ≤ w) : Pd d w (.int i) := Pd.up ⟨.int i, by simp [toP], Sh.int h0 h1⟩ (Nat.zero_le _) hw
theorem pd_nil {d w : Nat} : Pd (d + 1) w (.tup []) := Pd.up (pd_tup (d := 0) (w := 0) (k := 0) (l := []) (fun x hx => by cases hx) (Nat.le_refl _)) (by omega) (by omega)
theorem pc_nil {d w : Nat} : ∀ x ∈ ([] : List D), Pd d w x := fun x hx => by cases hx
theorem pc_cons {d w : Nat} {a : D} {l : List D} (h : Pd d w a) (hl : ∀ x ∈ l, Pd d w x) : ∀ x ∈ a :: l, Pd d w x := fun x hx => by
  rcases List.mem_cons.mp hx with rfl | z
  · exact h
  · exact hl x z
theorem Pd.pm {d w : Nat} {x : D} (h : Pd d w x) (M : Mem) : toPM M x = toP x := by
  obtain ⟨p, e, _⟩ := h
  cases x <;> first | rfl | (simp [toP] at e)
/-- == of data is being the same -/
theorem eqm_pd {d w d' w' : Nat} {x y : D} (M : Mem) (neg : Bool) (hx : Pd d w x) (hy : Pd d' w' y) (hd : d ≤ 60) : ∃ b : Bool, eqM neg M x y = some (.bl (if neg then !b else b)) ∧ (b = true ↔ x = y) := by
  have e1 := hx.pm M
  have e2 := hy.pm M
  obtain ⟨p, hp, sp⟩ := hx
  obtain ⟨q, hq, sq⟩ := hy
  refine ⟨PyData.eqv p q, ?_, ?_⟩
  · unfold eqM
    rw [e1, e2, hp, hq]
    simp only [Option.bind_some]
    rw [if_pos (Nat.le_trans sp.dp hd)]
  · rw [eqv_eq p q sp.nb sq.nb]
    constructor
    · intro h
      subst h
      exact toP_inj hp hq
    · intro h
      subst h
      rw [hp] at hq
      exact Option.some.inj hq
theorem repr_pd {d w : Nat} {x : D} (h : Pd d w x) (hh : ∃ l, x = .lst l) (hd : d ≤ 100) (hw : w ≤ 2 ^ 20) : ∃ t : Str, ∀ M : Mem, bRepr M [x] = some (.str t) := by
  obtain ⟨p, e, s⟩ := h
  obtain ⟨l, rfl⟩ := hh
  refine ⟨p.shown, fun M => ?_⟩
  have hf : reprFits p := by
    refine ⟨?_, s.sh, s.hd, Nat.le_trans s.dp hd, PyData.shown_fits (by decide) (by decide) s.ls (Nat.le_trans s.wt hw)⟩
    simp only [toP, Option.map_eq_some_iff] at e
    obtain ⟨ps, _, rfl⟩ := e
    rfl
  have e2 : pyM M (.lst l) = some p := by
    simp only [pyM, pyD_eq]
    exact e
  unfold bRepr one
  simp only [e2, Option.bind_some]
  rw [if_pos hf]

/-! ### k21: the letters -/
theorem v_asgG {f : XE} {gt : XG} {η : Dv} {M : Mem} {PF : Fl → Mem → Prop} (h : Gv (f η M) fun d M1 => Gv (gt d η M1) fun η1 M2 => PF (.nx η1) M2) : Gv (xAsg f gt η M) PF := gv_bind (h.imp fun d M1 h1 => gv_bind (Gv.imp h1 fun η1 M2 h2 => gv_ok h2))
theorem eq_ii {M : Mem} {i j : Int} : eqM false M (.int i) (.int j) = some (.bl (decide (i = j))) := by
  have h : (PyData.int i).depth ≤ 60 := by simp [PyData.depth]
  simp only [eqM, toPM, toP, Option.bind_some, h, if_true, PyData.eqv, Bool.false_eq_true, if_false]
  congr 2
theorem fs_small {fs : List (Str × D)} {k : Nat} (h : fs.length = k) (hk : k < 1000 := by decide) : fs.length < 1000 := by omega
theorem set_me {M : Mem} {j : Nat} {o o' : Ob} (h : M[j]? = some o) : (M.set j o')[j]? = some o' := List.getElem?_set_self (List.getElem?_eq_some_iff.mp h).1
theorem app_new {M : Mem} {o : Ob} : (M ++ [o])[M.length]? = some o := by simp
theorem letterinit_ok {M : Mem} {p : Nat} {n s g w d : D} (hp : M[p]? = some (.ins "Letter" [])) : Gv (f_Letter_init [.ptr p, n, s, g, w, d] M) fun r M' => r = .non ∧ M' = M.set p (.ins "Letter" [("number", n), ("sender", s), ("goal", g), ("word", w), ("parts", d)]) := by
  refine v_body rfl ?_
  unfold b_Letter_init
  refine v_seq (v_setF (v_var rfl (v_var rfl ⟨p, _, rfl, hp, by decide, v_thn ?_⟩)))
  refine v_seq (v_setF (v_var rfl (v_var rfl ⟨p, _, rfl, set_me hp, fs_small (k := 1) rfl, v_thn ?_⟩)))
  rw [List.set_set]
  refine v_seq (v_setF (v_var rfl (v_var rfl ⟨p, _, rfl, set_me hp, fs_small (k := 2) rfl, v_thn ?_⟩)))
  rw [List.set_set]
  refine v_seq (v_setF (v_var rfl (v_var rfl ⟨p, _, rfl, set_me hp, fs_small (k := 3) rfl, v_thn ?_⟩)))
  rw [List.set_set]
  refine v_setF (v_var rfl (v_var rfl ⟨p, _, rfl, set_me hp, fs_small (k := 4) rfl, ?_⟩))
  rw [List.set_set]
  exact ⟨rfl, rfl⟩
def ltD (i : Int) (s g w : Str) (p : D) : D := .ins "Letter" [("number", .int i), ("sender", .str s), ("goal", .str g), ("word", .str w), ("parts", p)]
def fdL (i : Int) (s g w : Str) (p : D) : List D := [.int i, .str s, .str g, .str w, p]
section
variable {η : Dv} {M : Mem} {P : D → Mem → Prop} {fa fk : XA}
theorem v_newL {n k : Nat} {is : List Nat} {dfl : List D} (hl : is.length = 6) (hp : Gv (fa η M) fun ds M1 => Gv (fk η M1) fun cs M2 => (ds.length = n ∧ cs.length = k) ∧ ∃ a b c d e, (∀ q : D, permL is (q :: (ds ++ cs ++ dfl)) = [q, a, b, c, d, e]) ∧
    P (.ins "Letter" [("number", a), ("sender", b), ("goal", c), ("word", d), ("parts", e)]) (M2 ++ [.gone])) : Gv (xFzI [] (xMakeP "Letter" n k is dfl f_Letter_init fa fk) η M) P := by
  refine v_fzI ?_
  refine gv_bind (hp.imp fun ds M1 h1 => gv_bind (h1.imp fun cs M2 ⟨⟨l1, l2⟩, a, b, c, d, e, hq, h2⟩ => ?_))
  rw [hq, if_pos ⟨l1, l2, by rw [hl]; rfl⟩]
  refine gv_bind ((letterinit_ok app_new).imp fun r M3 ⟨e1, e2⟩ => ?_)
  subst e1
  have e3 : M3.set M2.length .gone = M2 ++ [.gone] := by
    rw [e2, List.set_set]
    simp
  refine gv_ok ⟨M2.length, M3, _, rfl, rfl, frz_pI (by rw [e2]; exact set_me app_new), ?_⟩
  show P _ (M3.set M2.length .gone)
  rw [e3]
  exact h2
theorem v_gL5 {i j k l m : Nat} {a b c d e : D} {PD : Dv → Mem → Prop} (hp : PD (((((η.set i (some a)).set j (some b)).set k (some c)).set l (some d)).set m (some e)) M) : Gv (xgLst 5 (xgsCons (xgName i) (xgsCons (xgName j) (xgsCons (xgName k) (xgsCons (xgName l) (xgsCons (xgName m) xgsNil))))) (.lst [a, b, c, d, e]) η M) PD := gv_ok hp
end
theorem letter_ok {M : Mem} {i : Int} {s g w : Str} {p : D} {r : Int} : Gv (f_law_letter [.lst (fdL i s g w p), .int r] M) fun d M' => d = ltD i s g w p ∧ M' = M ++ [.gone] := by
  refine v_body rfl ?_
  unfold b_law_letter
  refine v_seq (v_asgG (v_var rfl (v_gL5 (v_thn (v_seq (v_ifS (v_tst (v_op (v_var rfl (v_c ⟨_, eq_ii, decide (r = 0), rfl, ?_⟩))))))))))
  by_cases h0 : r = 0
  · rw [if_pos (decide_eq_true h0)]
    refine v_ret (v_newL rfl (v_cons (v_var rfl (v_nil (v_cons (v_var rfl (v_cons (v_var rfl (v_cons (v_var rfl (v_cons (v_var rfl (v_nil ⟨⟨rfl, rfl⟩, _, _, _, _, _, fun q => rfl, ?_⟩)))))))))))))
    exact v_thr ⟨rfl, rfl⟩
  rw [if_neg (by simpa using h0)]
  refine v_nx (v_thn (v_seq (v_ifS (v_tst (v_op (v_var rfl (v_c ⟨_, eq_ii, decide (r = 1), rfl, ?_⟩)))))))
  by_cases h1 : r = 1
  · rw [if_pos (decide_eq_true h1)]
    refine v_ret (v_newL rfl (v_nil (v_cons (v_var rfl (v_cons (v_var rfl (v_cons (v_var rfl (v_cons (v_var rfl (v_cons (v_var rfl (v_nil ⟨⟨rfl, rfl⟩, _, _, _, _, _, fun q => rfl, ?_⟩)))))))))))))
    exact v_thr ⟨rfl, rfl⟩
  rw [if_neg (by simpa using h1)]
  refine v_nx (v_thn (v_seq (v_ifS (v_tst (v_op (v_var rfl (v_c ⟨_, eq_ii, decide (r = 2), rfl, ?_⟩)))))))
  by_cases h2 : r = 2
  · rw [if_pos (decide_eq_true h2)]
    refine v_ret (v_newL rfl (v_cons (v_var rfl (v_nil (v_cons (v_var rfl (v_cons (v_var rfl (v_cons (v_var rfl (v_cons (v_var rfl (v_nil ⟨⟨rfl, rfl⟩, _, _, _, _, _, fun q => rfl, ?_⟩)))))))))))))
    exact v_thr ⟨rfl, rfl⟩
  rw [if_neg (by simpa using h2)]
  refine v_nx (v_thn ?_)
  refine v_ret (v_newL rfl (v_nil (v_cons (v_var rfl (v_cons (v_var rfl (v_cons (v_var rfl (v_cons (v_var rfl (v_cons (v_var rfl (v_nil ⟨⟨rfl, rfl⟩, _, _, _, _, _, fun q => rfl, ?_⟩)))))))))))))
  exact ⟨rfl, rfl⟩

/-! ### k21: a letter compared, told as text -/
theorem v_fldI {M : Mem} {η : Dv} {P : D → Mem → Prop} {x fl : Str} {i : Nat} {fs : List (Str × D)} {v : D} (h : η[i]? = some (some (.ins x fs))) (hl : fs.lookup fl = some v) (hp : P v M) : Gv (xFld x fl (xVar i) η M) P := v_fld (v_var h ⟨fs, v, rfl, hl, hp⟩)
theorem iteFd {b : Bool} {A B : Prop} (h : b = false) (hb : B) : if b = true then A else B := by subst h; simpa using hb
theorem iteTd {b : Bool} {A B : Prop} (h : b = true) (ha : A) : if b = true then A else B := by subst h; simpa using ha
theorem eq_ss {M : Mem} {a b : Str} : eqM false M (.str a) (.str b) = some (.bl (decide (a = b))) := by
  have h : (PyData.str a).depth ≤ 60 := by simp [PyData.depth]
  simp only [eqM, toPM, toP, Option.bind_some, h, if_true, PyData.eqv, Bool.false_eq_true, if_false]
  congr 2
theorem ne_ss {M : Mem} {a b : Str} : eqM true M (.str a) (.str b) = some (.bl (!decide (a = b))) := by
  have h : (PyData.str a).depth ≤ 60 := by simp [PyData.depth]
  simp only [eqM, toPM, toP, Option.bind_some, h, if_true, PyData.eqv]
  congr 2
theorem add_s {M : Mem} {a b : Str} {k : Nat} (h : a.length ≤ k) (h' : b.length ≤ k) (hk : k ≤ 1000000) : dAdd M (.str a) (.str b) = some (.str (a ++ b)) := add_ss (by rw [sizeLine_eq]; omega)
theorem emp_app (s : Str) : (Str.empty ++ s : Str) = s := by
  cases s
  show Str.mk (#[] ++ _) = _
  simp
/-- the fields are data -/
structure FOk (i : Int) (s g w : Str) (p : D) : Prop where
  i0 : 0 ≤ i
  i1 : i < 10 ^ 12
  ds : Pd 8 5000 (.str s)
  dg : Pd 8 5000 (.str g)
  dw : Pd 8 5000 (.str w)
  dp : Pd 8 5000 p
  sl : s.length ≤ 8
  gl : g.length ≤ 8
  wl : w.length ≤ 8
section
variable {M : Mem} {i j : Int} {s g w s' g' w' : Str} {p q : D}
theorem FOk.di (h : FOk i s g w p) : Pd 8 5000 (.int i) := pd_int h.i0 h.i1 (by decide)
theorem fd_inj : ltD i s g w p = ltD j s' g' w' q ↔ D.tup [.int i, .str s, .str g] = D.tup [.int j, .str s', .str g'] ∧ D.tup [.str w, p] = D.tup [.str w', q] := by
  simp only [ltD, D.ins.injEq, D.tup.injEq, List.cons.injEq, Prod.mk.injEq, D.int.injEq, D.str.injEq, true_and, and_true]
  constructor
  · rintro ⟨a, b, c, d, e⟩
    exact ⟨⟨a, b, c⟩, d, e⟩
  · rintro ⟨⟨a, b, c⟩, d, e⟩
    exact ⟨a, b, c, d, e⟩
theorem eq_ok (h : FOk i s g w p) (h' : FOk j s' g' w' q) : Gv (f_Letter_eq [ltD i s g w p, ltD j s' g' w' q] M) fun r M' => M' = M ∧ ∃ b, r = .bl b ∧ (b = true ↔ ltD i s g w p = ltD j s' g' w' q) := by
  obtain ⟨b1, e1, i1⟩ := eqm_pd M false (pd_tup (k := 3) (pc_cons h.di (pc_cons h.ds (pc_cons h.dg pc_nil))) (Nat.le_refl _)) (pd_tup (k := 3) (pc_cons h'.di (pc_cons h'.ds (pc_cons h'.dg pc_nil))) (Nat.le_refl _)) (by decide)
  obtain ⟨b2, e2, i2⟩ := eqm_pd M false (pd_tup (k := 2) (pc_cons h.dw (pc_cons h.dp pc_nil)) (Nat.le_refl _)) (pd_tup (k := 2) (pc_cons h'.dw (pc_cons h'.dp pc_nil)) (Nat.le_refl _)) (by decide)
  refine v_body rfl ?_
  unfold b_Letter_eq
  refine v_seq (v_ifS (v_not (v_tru (v_isO (v_cons (v_var rfl (v_cons (v_c (v_nil ⟨_, _, rfl, rfl, true, rfl, iteFd rfl (v_nx (v_thn ?_))⟩)))))))))
  refine v_seq (v_asg (v_op (v_tup (v_cons (v_fldI rfl rfl (v_cons (v_fldI rfl rfl (v_cons (v_fldI rfl rfl (v_nil ⟨by simp, v_tup (v_cons (v_fldI rfl rfl (v_cons (v_fldI rfl rfl (v_cons (v_fldI rfl rfl (v_nil ⟨by simp, _, e1, v_thn ?_⟩)))))))⟩))))))))))
  refine v_ret (v_andV (v_var rfl ⟨b1, rfl, ?_⟩))
  cases b1 with
  | false =>
    refine iteFd rfl ⟨rfl, false, rfl, ?_⟩
    rw [fd_inj]
    exact ⟨fun z => (by cases z), fun z => (by have := i1.mpr z.1; cases this)⟩
  | true =>
    refine iteTd rfl (v_op (v_tup (v_cons (v_fldI rfl rfl (v_cons (v_fldI rfl rfl (v_nil ⟨by simp, v_tup (v_cons (v_fldI rfl rfl (v_cons (v_fldI rfl rfl (v_nil ⟨by simp, _, e2, rfl, b2, rfl, ?_⟩)))))⟩)))))))
    rw [fd_inj, i2]
    exact ⟨fun z => ⟨i1.mp rfl, z⟩, fun z => z.2⟩
theorem v_isOF {x : Str} {fa : XA} {η : Dv} {P : D → Mem → Prop} (hp : Gv (fa η M) fun ds M1 => ∃ d t, ds = [d, .fn x] ∧ asIns M1 d = none ∧ tyN M1 d = some t ∧ t ∈ ["NoneType", "bool", "int", "str", "list", "tuple", "dict"] ∧ P (.bl false) M1) : Gv (xIsO x fa η M) P := gv_bind (hp.imp fun ds M1 ⟨d, t, e1, e2, e3, e4, h⟩ => by
  subst e1
  simp only [if_true, e2, e3, if_pos e4]
  exact gv_ok h)
theorem eq_other {d : D} {t : String} (hd : biN d = some t) : Gv (f_Letter_eq [ltD i s g w p, d] M) fun r M' => M' = M ∧ r = .bl false := by
  have h1 : asIns M d = none := by cases d <;> first | rfl | (simp [biN] at hd)
  have h2 : tyN M d = some t := by cases d <;> first | exact hd | (simp [biN] at hd)
  have h3 : t ∈ ["NoneType", "bool", "int", "str", "list", "tuple", "dict"] := by cases d <;> simp [biN] at hd <;> subst hd <;> simp
  refine v_body rfl ?_
  unfold b_Letter_eq
  refine v_seq (v_ifS (v_not (v_tru (v_isOF (v_cons (v_var rfl (v_cons (v_c (v_nil ⟨_, t, rfl, h1, h2, h3, false, rfl, iteTd rfl (v_ret (v_c (v_thr ⟨rfl, rfl⟩)))⟩)))))))))
def strT (s g w : Str) : Str := s ++ ">" ++ g ++ " " ++ w
def reprT (i : Int) : Str := "Letter(" ++ (toString i : Str) ++ ")"
theorem len_app (s t : Str) : (s ++ t).length = s.length + t.length := len_append s t
theorem str_ok (h : FOk i s g w p) : Gv (f_Letter_str [ltD i s g w p] M) fun r M' => r = .str (strT s g w) ∧ M' = M := by
  have a1 := h.sl
  have a2 := h.gl
  have a3 := h.wl
  have l1 : (">" : Str).length = 1 := by decide +kernel
  have l2 : (" " : Str).length = 1 := by decide +kernel
  have l0 : (Str.empty : Str).length = 0 := by decide +kernel
  have z := sizeLine_eq
  refine v_body rfl ?_
  unfold b_Letter_str
  refine v_ret (v_js1 (v_fmt (v_fldI rfl rfl (.inl ⟨s, rfl, by omega, s, rfl, by rw [len_app]; omega, ?_⟩))))
  refine v_js1 (v_c ⟨_, rfl, by simp only [len_app]; omega, ?_⟩)
  refine v_js1 (v_fmt (v_fldI rfl rfl (.inl ⟨g, rfl, by omega, g, rfl, by simp only [len_app]; omega, ?_⟩)))
  refine v_js1 (v_c ⟨_, rfl, by simp only [len_app]; omega, ?_⟩)
  refine v_js1 (v_fmt (v_fldI rfl rfl (.inl ⟨w, rfl, by omega, w, rfl, by simp only [len_app]; omega, v_js0 ⟨?_, rfl⟩⟩)))
  rw [emp_app]
  rfl
theorem repr_ok (h : FOk i s g w p) : Gv (f_Letter_repr [ltD i s g w p] M) fun r M' => r = .str (reprT i) ∧ M' = M := by
  have a1 := num_log h.i0 h.i1
  have a2 := len_num h.i0 h.i1
  have l1 : ("Letter(" : Str).length = 7 := by decide +kernel
  have l2 : (")" : Str).length = 1 := by decide +kernel
  have l0 : (Str.empty : Str).length = 0 := by decide +kernel
  have z := sizeLine_eq
  refine v_body rfl ?_
  unfold b_Letter_repr
  refine v_ret (v_js1 (v_c ⟨_, rfl, by simp only [len_app]; omega, ?_⟩))
  refine v_js1 (v_fmt (v_fldI rfl rfl (.inr ⟨i, rfl, by omega, _, rfl, by simp only [len_app]; omega, ?_⟩)))
  refine v_js1 (v_c ⟨_, rfl, by simp only [len_app]; omega, v_js0 ⟨?_, rfl⟩⟩)
  rw [emp_app]
  rfl
theorem v_txtO {x : Str} {fn : Fn} {fa : XA} {η : Dv} {P : D → Mem → Prop} (hp : Gv (fa η M) fun ds M1 => ∃ d, ds = [d] ∧ isIns x d = true ∧ Gv (fn [d] M1) fun r M2 => ∃ t, r = .str t ∧ P (.str t) M2) : Gv (xTxtO x fn fa η M) P := gv_bind (hp.imp fun ds M1 ⟨d, e1, e2, h⟩ => by
  subst e1
  simp only [e2, if_true]
  exact gv_bind (h.imp fun r M2 ⟨t, e, h2⟩ => by
    subst e
    exact gv_ok h2))
theorem FOk.all (h : FOk i s g w p) : Pd 9 25005 (.lst (fdL i s g w p)) := pd_lst (k := 5) (pc_cons h.di (pc_cons h.ds (pc_cons h.dg (pc_cons h.dw (pc_cons h.dp pc_nil))))) (Nat.le_refl _)
theorem is_of_ok (h : FOk i s g w p) : Gv (f_law_is_of [ltD i s g w p, .lst (fdL i s g w p)] M) fun r M' => r = .bl true ∧ M' = M := by
  obtain ⟨t, ht⟩ := repr_pd h.all ⟨_, rfl⟩ (by decide) (by decide)
  have a0 := num_log h.i0 h.i1
  have a1 := h.sl
  have a2 := h.gl
  have a3 := h.wl
  have a4 := len_num h.i0 h.i1
  have l1 : (">" : Str).length = 1 := by decide +kernel
  have l2 : (" " : Str).length = 1 := by decide +kernel
  have l3 : ("Letter(" : Str).length = 7 := by decide +kernel
  have l4 : (")" : Str).length = 1 := by decide +kernel
  refine v_body rfl ?_
  unfold b_law_is_of
  refine v_seq (v_asg (v_lst (v_cons (v_fldI rfl rfl (v_cons (v_fldI rfl rfl (v_cons (v_fldI rfl rfl (v_cons (v_fldI rfl rfl (v_cons (v_fldI rfl rfl (v_nil ⟨by simp, v_thn ?_⟩)))))))))))))
  refine v_seq (v_ifS (v_or (v_tst (v_op (v_call (v_cons (v_var rfl (v_nil ⟨_, ht M, v_call (v_cons (v_var rfl (v_nil ⟨_, ht M, _, ne_ss, _, rfl, ?_⟩)))⟩))))))))
  refine iteFd (by simp) (v_tst (v_op (v_txtO (v_cons (v_var rfl (v_nil ⟨_, rfl, rfl, (repr_ok h).imp ?_⟩))))))
  rintro _ M1 ⟨rfl, rfl⟩
  refine ⟨_, rfl, v_op (v_op (v_c (v_call (v_cons (v_op (v_var rfl (v_c ⟨.int i, by rw [ix_l, ix_0]; rfl, ?_⟩)))))))⟩
  refine v_nil ⟨.str (toString i), by show cOr bStr1 bStr2 M1 [.int i] = _; simp [cOr, bStr1, bStr2, one, asS, asI]; omega, _, add_s (k := 100) (by omega) (by omega) (by decide), v_c ⟨_, add_s (k := 100) (by rw [len_app]; omega) (by omega) (by decide), _, ne_ss, _, rfl, ?_⟩⟩
  refine iteFd (by simp [reprT]) (v_nx (v_thn (v_ret (v_op (v_txtO (v_cons (v_var rfl (v_nil ⟨_, rfl, rfl, (str_ok h).imp ?_⟩))))))))
  rintro _ M2 ⟨rfl, rfl⟩
  refine ⟨_, rfl, v_op (v_op (v_op (v_op (v_op (v_var rfl (v_c ⟨.str s, by rw [ix_l, ix_1]; rfl, v_c ⟨_, add_s (k := 100) (by omega) (by omega) (by decide), ?_⟩⟩))))))⟩
  refine v_op (v_var rfl (v_c ⟨.str g, by rw [ix_l, ix_2]; rfl, _, add_s (k := 100) (by rw [len_app]; omega) (by omega) (by decide), v_c ⟨_, add_s (k := 100) (by simp only [len_app]; omega) (by omega) (by decide), ?_⟩⟩))
  refine v_op (v_var rfl (v_c ⟨.str w, by rw [ix_l, ix_3]; rfl, _, add_s (k := 100) (by simp only [len_app]; omega) (by omega) (by decide), _, eq_ss, ?_, rfl⟩))
  rw [decide_eq_true (by rfl)]
end

/-! ### k21: other letters, and equality -/
abbrev Fl := Int × Str × Str × Str × D
def fdF (o : Fl) : D := .lst (fdL o.1 o.2.1 o.2.2.1 o.2.2.2.1 o.2.2.2.2)
def ltF (o : Fl) : D := ltD o.1 o.2.1 o.2.2.1 o.2.2.2.1 o.2.2.2.2
def FlOk (o : Fl) : Prop := FOk o.1 o.2.1 o.2.2.1 o.2.2.2.1 o.2.2.2.2
/-- parts of which a letter with more may be made -/
structure Pts (pl : List D) : Prop where
  el : ∀ x ∈ pl, Pd 6 500 x
  le : pl.length ≤ 5
def othersL (i : Int) (s g w : Str) (pl : List D) : List Fl :=
  [(i + 1, s, g, w, .tup pl), (i, g, s, w, .tup pl), (i, s, s, w, .tup pl), (i, g, g, w, .tup pl), (i, s, g, w, .tup (pl ++ [.int 1])), (i, s, g, (if w = "want" then "over" else "want"), .tup pl), (i, s, g, w, .tup [.tup pl]), (i + 1, s, g, w, .tup (pl ++ [.int 0]))]
section
variable {M : Mem} {i : Int} {s g w : Str} {pl : List D}
theorem Pts.more (h : Pts pl) (j : Int) (h0 : 0 ≤ j) (h1 : j < 10 ^ 12) : Pd 8 5000 (.tup (pl ++ [.int j])) := Pd.up (pd_tup (k := 6) (fun x hx => by
  rcases List.mem_append.mp hx with z | z
  · exact h.el x z
  · rw [List.mem_singleton.mp z]
    exact pd_int h0 h1 (by decide)) (by have := h.le; simp; omega)) (by decide) (by decide)
theorem Pts.me (h : Pts pl) : Pd 7 2505 (.tup pl) := pd_tup (k := 5) h.el h.le
theorem Pts.one (h : Pts pl) : Pd 8 5000 (.tup [.tup pl]) := Pd.up (pd_tup (k := 1) (pc_cons h.me pc_nil) (Nat.le_refl _)) (by decide) (by decide)
theorem wd_ok {w : Str} (h : w = "want" ∨ w = "over") : Pd 8 5000 (.str w) ∧ w.length ≤ 8 := by
  have a : ∀ c ∈ ("want" : Str).cps.toList, c < 16 ^ 8 := by decide +kernel
  have b : ∀ c ∈ ("over" : Str).cps.toList, c < 16 ^ 8 := by decide +kernel
  have a1 : ("want" : Str).length ≤ 8 := by decide +kernel
  have b1 : ("over" : Str).length ≤ 8 := by decide +kernel
  rcases h with rfl | rfl
  · exact ⟨pd_str a (by omega), a1⟩
  · exact ⟨pd_str b (by omega), b1⟩
theorem others_fok (h : FOk i s g w (.tup pl)) (hi : i + 1 < 10 ^ 12) (hp : Pts pl) : ∀ o ∈ othersL i s g w pl, FlOk o := by
  have hw : (if w = ("want" : Str) then ("over" : Str) else "want") = "want" ∨ (if w = ("want" : Str) then ("over" : Str) else "want") = "over" := by split <;> simp
  obtain ⟨w1, w2⟩ := wd_ok hw
  obtain ⟨i0, i1, ds, dg, dw, dp, sl, gl, wl⟩ := h
  intro o ho
  simp only [othersL, List.mem_cons, List.not_mem_nil, or_false] at ho
  rcases ho with rfl | rfl | rfl | rfl | rfl | rfl | rfl | rfl
  · exact ⟨by show 0 ≤ i + 1; omega, hi, ds, dg, dw, dp, sl, gl, wl⟩
  · exact ⟨i0, i1, dg, ds, dw, dp, gl, sl, wl⟩
  · exact ⟨i0, i1, ds, ds, dw, dp, sl, sl, wl⟩
  · exact ⟨i0, i1, dg, dg, dw, dp, gl, gl, wl⟩
  · exact ⟨i0, i1, ds, dg, dw, hp.more 1 (by decide) (by decide), sl, gl, wl⟩
  · exact ⟨i0, i1, ds, dg, w1, dp, sl, gl, w2⟩
  · exact ⟨i0, i1, ds, dg, dw, hp.one, sl, gl, wl⟩
  · exact ⟨by show 0 ≤ i + 1; omega, hi, ds, dg, dw, hp.more 0 (by decide) (by decide), sl, gl, wl⟩
theorem want_ne : ("over" : Str) ≠ "want" := by decide +kernel
theorem others_ne (hs : s ≠ g) : ∀ o ∈ othersL i s g w pl, ltF o ≠ ltD i s g w (.tup pl) := by
  intro o ho
  simp only [othersL, List.mem_cons, List.not_mem_nil, or_false] at ho
  rcases ho with rfl | rfl | rfl | rfl | rfl | rfl | rfl | rfl <;> intro e <;> simp only [ltF, ltD, D.ins.injEq, List.cons.injEq, Prod.mk.injEq, D.int.injEq, D.str.injEq, D.tup.injEq, true_and, and_true] at e
  · omega
  · exact hs e.2
  · exact hs e
  · exact hs e.symm
  · have := congrArg List.length e
    simp at this
  · split at e
    · next z => rw [z] at e; exact want_ne e
    · next z => exact z e.symm
  · have := congrArg sizeOf e
    simp at this
    omega
  · omega
theorem want_int (b : Bool) : bInt M [.bl b] = some (.int (if b = true then 1 else 0)) := by cases b <;> rfl
theorem others_ok (hl : pl.length ≤ 5) : Gv (f_law_others [.lst (fdL i s g w (.tup pl))] M) fun r M' => r = .lst ((othersL i s g w pl).map fdF) ∧ M' = M := by
  have z := sizeLine_eq
  refine v_body rfl ?_
  unfold b_law_others
  refine v_seq (v_asgG (v_var rfl (v_gL5 (v_thn ?_))))
  refine v_seq (v_asg (v_lst (v_cons (v_lst (v_cons (v_op (v_var rfl (v_c ⟨_, add_ii, ?_⟩))))))))
  refine v_cons (v_var rfl (v_cons (v_var rfl (v_cons (v_var rfl (v_cons (v_var rfl (v_nil ⟨by simp, ?_⟩))))))))
  refine v_cons (v_lst (v_cons (v_var rfl (v_cons (v_var rfl (v_cons (v_var rfl (v_cons (v_var rfl (v_cons (v_var rfl (v_nil ⟨by simp, ?_⟩))))))))))))
  refine v_cons (v_lst (v_cons (v_var rfl (v_cons (v_var rfl (v_cons (v_var rfl (v_cons (v_var rfl (v_cons (v_var rfl (v_nil ⟨by simp, v_nil ⟨by simp, v_thn ?_⟩⟩))))))))))))
  refine v_seq (v_asg (v_op (v_var rfl (v_lst (v_cons (v_lst (v_cons (v_var rfl (v_cons (v_var rfl (v_cons (v_var rfl (v_cons (v_var rfl (v_cons (v_var rfl (v_nil ⟨by simp, ?_⟩)))))))))))))))))
  refine v_cons (v_lst (v_cons (v_var rfl (v_cons (v_var rfl (v_cons (v_var rfl (v_cons (v_var rfl (v_cons (v_op (v_var rfl (v_tup (v_cons (v_c (v_nil ⟨by simp, _, add_tt (by simp; omega), ?_⟩))))))))))))))))
  refine v_nil ⟨by simp, v_nil ⟨by simp, _, add_ll (by simp; omega), v_thn ?_⟩⟩
  refine v_seq (v_asg (v_op (v_var rfl (v_lst (v_cons (v_lst (v_cons (v_var rfl (v_cons (v_var rfl (v_cons (v_var rfl (v_cons (v_op (v_lst (v_cons (v_c (v_cons (v_c (v_nil ⟨by simp, ?_⟩))))))))))))))))))))
  refine v_call (v_cons (v_op (v_var rfl (v_c ⟨_, eq_ss, v_nil ⟨_, want_int _, .str (if w = "want" then "over" else "want"), ?_, ?_⟩⟩))))
  · rw [ix_l]
    by_cases hw : w = "want"
    · rw [if_pos hw, decide_eq_true hw, if_pos rfl, ix_1]
      rfl
    · rw [if_neg hw, decide_eq_false hw, if_neg (by decide), ix_0]
      rfl
  refine v_cons (v_var rfl (v_nil ⟨by simp, v_nil ⟨by simp, _, add_ll (by simp; omega), v_thn ?_⟩⟩))
  refine v_ret (v_op (v_var rfl (v_lst (v_cons (v_lst (v_cons (v_var rfl (v_cons (v_var rfl (v_cons (v_var rfl (v_cons (v_var rfl (v_cons (v_tup (v_cons (v_var rfl (v_nil ⟨by simp, v_nil ⟨by simp, ?_⟩⟩))))))))))))))))))
  refine v_cons (v_lst (v_cons (v_op (v_var rfl (v_c ⟨_, add_ii, ?_⟩)))))
  refine v_cons (v_var rfl (v_cons (v_var rfl (v_cons (v_var rfl (v_cons (v_op (v_var rfl (v_tup (v_cons (v_c (v_nil ⟨by simp, _, add_tt (by simp; omega), ?_⟩))))))))))))
  refine v_nil ⟨by simp, v_nil ⟨by simp, _, add_ll (by simp; omega), ?_, rfl⟩⟩
  rfl
end
/-! own equality, once more -/
section
variable {M : Mem}
def Lt (d : D) : Prop := ∃ o : Fl, d = ltF o ∧ FlOk o
def Bt (d : D) : Prop := ∃ t, biN d = some t
open Classical in
theorem eq_dec {d e : D} (hd : Lt d) (he : Lt e ∨ Bt e) : eqFits "Letter" d e = true ∧ Gv (f_Letter_eq [d, e] M) fun r M' => r = .bl (decide (d = e)) ∧ M' = M := by
  obtain ⟨o, rfl, ho⟩ := hd
  rcases he with ⟨u, rfl, hu⟩ | ⟨t, ht⟩
  · refine ⟨by simp [eqFits, ltF, ltD, isIns], (eq_ok ho hu).imp ?_⟩
    rintro r M' ⟨rfl, b, rfl, hb⟩
    refine ⟨?_, rfl⟩
    congr 1
    rw [Bool.eq_iff_iff, decide_eq_true_iff]
    exact hb
  · refine ⟨by simp [eqFits, ltF, ltD, isIns, ht], (eq_other ht).imp ?_⟩
    rintro r M' ⟨rfl, rfl⟩
    refine ⟨?_, rfl⟩
    rw [decide_eq_false]
    intro z
    rw [← z] at ht
    simp [biN, ltF, ltD] at ht
theorem FlOk.pf {o : Fl} (h : FlOk o) : toPf [("number", .int o.1), ("sender", .str o.2.1), ("goal", .str o.2.2.1), ("word", .str o.2.2.2.1), ("parts", o.2.2.2.2)] = true := by
  obtain ⟨p, hp, _⟩ := h.dp
  simp [toPf, toP, hp]
open Classical in
theorem eqIt_dec {d e : D} (h : Lt d ∧ (Lt e ∨ Bt e) ∨ Bt d ∧ Lt e) : eqIt "Letter" f_Letter_eq M d e = some (decide (d = e)) := by
  have fin : ∀ {p q : D}, sideD "Letter" d e = some (p, q) → (Gv (f_Letter_eq [p, q] M) fun r M' => r = .bl (decide (d = e)) ∧ M' = M) → eqIt "Letter" f_Letter_eq M d e = some (decide (d = e)) := by
    intro p q hs hg
    obtain ⟨r, M', e1, rfl, rfl⟩ := hg
    unfold eqIt
    rw [hs]
    simp only [e1]
    rw [if_pos ⟨trivial, fun z => decide_eq_true z⟩]
  rcases h with ⟨hd, he⟩ | ⟨hd, he⟩
  · have go := (eq_dec (M := M) hd he).2
    refine fin ?_ go
    obtain ⟨o, rfl, ho⟩ := hd
    rcases he with ⟨u, rfl, hu⟩ | ⟨t, ht⟩
    · have h1 := ho.pf
      have h2 := hu.pf
      simp only [sideD, ltF, ltD, h1, h2, if_true, and_self]
    · cases e <;> first | (simp [biN] at ht; done) | simp [sideD, ltF, ltD, biN]
  · obtain ⟨t, ht⟩ := hd
    have go := (eq_dec (M := M) he (.inr ⟨t, ht⟩)).2
    have hne : d ≠ e := by
      obtain ⟨u, rfl, hu⟩ := he
      intro z
      rw [z] at ht
      simp [biN, ltF, ltD] at ht
    rw [decide_eq_false (Ne.symm hne)] at go
    refine fin (p := e) (q := d) ?_ (by rw [decide_eq_false hne]; exact go)
    obtain ⟨u, rfl, hu⟩ := he
    unfold sideD
    split
    · next y fs => simp [biN] at ht
    · simp only [ltF, ltD, ht]
      simp
open Classical in
theorem eqAll_dec {e : D} : ∀ {ds : List D}, (∀ d ∈ ds, Lt d ∧ (Lt e ∨ Bt e) ∨ Bt d ∧ Lt e) → eqAll "Letter" f_Letter_eq M e ds = some (ds.map fun d => decide (d = e))
  | [], _ => rfl
  | d :: ds, h => by
    unfold eqAll
    rw [eqIt_dec (h d (List.mem_cons_self ..)), eqAll_dec (fun x hx => h x (List.mem_cons_of_mem _ hx))]
    rfl
variable {η : Dv} {P : D → Mem → Prop} {f g : XE} {fa : XA} {x : Str} {fn : Fn}
theorem v_eqX {neg : Bool} (h : Gv (f η M) fun d1 M1 => Gv (g η M1) fun d2 M2 => eqFits x d1 d2 = true ∧ Gv (fn [d1, d2] M2) fun r M3 => ∃ b, r = .bl b ∧ P (.bl (if neg then !b else b)) M3) : Gv (xEqX neg x fn f g η M) P :=
  gv_bind (h.imp fun d1 M1 h1 => gv_bind (h1.imp fun d2 M2 ⟨e, h2⟩ => by
    rw [if_pos e]
    exact gv_bind (h2.imp fun r M3 ⟨b, e2, h3⟩ => by
      subst e2
      exact gv_ok h3)))
theorem v_inX {neg : Bool} (h : Gv (f η M) fun e M1 => Gv (g η M1) fun l M2 => ∃ ds bs, l = .lst ds ∧ eqAll x fn M2 e ds = some bs ∧ P (.bl (if neg then !bs.any id else bs.any id)) M2) : Gv (xInX neg x fn f g η M) P :=
  gv_bind (h.imp fun e M1 h1 => gv_bind (h1.imp fun l M2 ⟨ds, bs, e1, e2, h2⟩ => by
    subst e1
    simp only [e2]
    exact gv_ok h2))
theorem v_countX (h : Gv (f η M) fun d M1 => ∃ ds, d = .lst ds ∧ Gv (fa η M1) fun es M2 => ∃ e bs, es = [e] ∧ eqAll x fn M2 e ds = some bs ∧ P (.int (bs.countP id : Nat)) M2) : Gv (xCountX x fn f fa η M) P :=
  gv_bind (h.imp fun d M1 ⟨ds, e1, h1⟩ => by
    subst e1
    exact gv_bind (h1.imp fun es M2 ⟨e, bs, e2, e3, h2⟩ => by
      subst e2
      simp only [e3]
      exact gv_ok h2))
end

/-! ### k21: letters alike -/
theorem ne_ii {M : Mem} {i j : Int} : eqM true M (.int i) (.int j) = some (.bl (!decide (i = j))) := by
  have h : (PyData.int i).depth ≤ 60 := by simp [PyData.depth]
  simp only [eqM, toPM, toP, Option.bind_some, h, if_true, PyData.eqv]
  congr 2
theorem letterF_ok {M : Mem} {o : Fl} {r : Int} : Gv (f_law_letter [fdF o, .int r] M) fun d M' => d = ltF o ∧ M' = M ++ [.gone] := letter_ok
section
variable {M : Mem} {i : Int} {s g w : Str} {pl : List D}
open Classical in
theorem alike_ok {n : Nat} {N : Int} (hb : BagAt M n N) (hN : N + 20 < 2 ^ 40) (h : FOk i s g w (.tup pl)) (hi : i + 1 < 10 ^ 12) (hp : Pts pl) (hs : s ≠ g) :
    Gv (f_law_alike [ltD i s g w (.tup pl), .lst (fdL i s g w (.tup pl)), .ptr n] M) fun r M' => r = .bl true ∧ BagAt M' n (N + 20) ∧ Kp n M M' := by
  have hL : Lt (ltD i s g w (.tup pl)) := ⟨(i, s, g, w, .tup pl), rfl, h⟩
  have z := sizeLine_eq
  refine v_body rfl ?_
  unfold b_law_alike
  refine v_seq (v_asg (v_fn (v_cons (v_var rfl (v_cons (v_fn (v_cons (v_var rfl (v_cons (v_c (v_nil ⟨rfl, (take_ok hb (by omega) (by decide) (by decide)).imp ?_⟩)))))))))))
  rintro _ M1 ⟨⟨r, rfl, r0, r1, b1, k1⟩⟩
  refine v_nil ⟨rfl, letter_ok.imp ?_⟩
  rintro _ M2 ⟨rfl, e2⟩
  have b2 : BagAt M2 n (N + 1) := by rw [e2]; exact b1.gr (Gr.app _ _)
  have k2 : Kp n M M2 := by rw [e2]; exact k1.trans ((Gr.app _ _).kp n)
  clear e2
  refine v_thn (v_seq (v_asg (v_lst (v_cons (v_call (v_cons (v_var rfl (v_nil ⟨.tup (fdL i s g w (.tup pl)), rfl, ?_⟩))))))))
  refine v_cons (v_var rfl (v_cons (v_op (v_var rfl (v_c ⟨.int i, by rw [ix_l, ix_0]; rfl, v_cons (v_txtO (v_cons (v_var rfl (v_nil ⟨_, rfl, rfl, (str_ok h).imp ?_⟩))))⟩)))))
  rintro _ _ ⟨rfl, rfl⟩
  refine ⟨_, rfl, v_cons (v_txtO (v_cons (v_var rfl (v_nil ⟨_, rfl, rfl, (repr_ok h).imp ?_⟩))))⟩
  rintro _ _ ⟨rfl, rfl⟩
  refine ⟨_, rfl, v_cons (v_c (v_cons (v_tup (v_nil ⟨by simp, v_cons (v_op (v_var rfl (v_c ⟨.tup pl, by rw [ix_l, ix_4]; rfl, v_nil ⟨by simp, v_thn ?_⟩⟩)))⟩))))⟩
  refine v_seq (v_asg (v_lc (v_sq (v_fn (v_cons (v_var rfl (v_nil ⟨rfl, (others_ok hp.le).imp ?_⟩)))))))
  rintro _ _ ⟨rfl, rfl⟩
  refine ⟨_, rfl, by simp [othersL], ?_⟩
  refine Gv.imp (v_lcL (fun rest acc Mx => ∃ pre suf : List Fl, othersL i s g w pl = pre ++ suf ∧ rest = suf.map fdF ∧ acc = pre.map ltF ∧ BagAt Mx n (N + 1 + pre.length) ∧ Kp n M Mx) _ ?_ [] ⟨[], othersL i s g w pl, rfl, rfl, rfl, by simpa using b2, k2⟩) ?_
  · rintro d r acc Mx ⟨pre, suf, e1, e2, rfl, bx, kx⟩
    cases suf with
    | nil => cases e2
    | cons o suf =>
      cases e2
      have hlen : pre.length ≤ 7 := by
        have := congrArg List.length e1
        simp [othersL] at this
        omega
      refine v_gn (v_yes (iteTd rfl (v_fn (v_cons (v_var rfl (v_cons (v_fn (v_cons (v_var rfl (v_cons (v_c (v_nil ⟨rfl, (take_ok bx (by omega) (by decide) (by decide)).imp ?_⟩))))))))))))
      rintro _ My ⟨⟨r, rfl, r0, r1, b3, k3⟩⟩
      refine v_nil ⟨rfl, letterF_ok.imp ?_⟩
      rintro _ _ ⟨rfl, rfl⟩
      refine ⟨pre ++ [o], suf, by simp [e1], rfl, by simp, ?_, kx.trans (k3.trans ((Gr.app _ _).kp n))⟩
      have e : N + 1 + ((pre ++ [o]).length : Nat) = N + 1 + (pre.length : Nat) + 1 := by simp; omega
      rw [e]
      exact b3.gr (Gr.app _ _)
  rintro O M3 ⟨pre, suf, e1, e2, e3, b3, k3⟩
  have hsuf : suf = [] := by simpa using e2.symm
  subst hsuf
  rw [List.append_nil] at e1
  subst e1
  have e3' : O = (othersL i s g w pl).map ltF := by simpa using e3
  have bO : ∀ d ∈ O, Lt d ∧ d ≠ ltD i s g w (.tup pl) := by
    intro d hd
    rw [e3'] at hd
    obtain ⟨o, ho, rfl⟩ := List.mem_map.mp hd
    exact ⟨⟨o, rfl, others_fok h hi hp o ho⟩, others_ne hs o ho⟩
  have lO : O.length = 8 := by rw [e3']; rfl
  have b4 : BagAt M3 n (N + 20) := b3.up (by simp [othersL]; omega) hN
  clear e3 e3' e2 b3
  have hS : ∀ d ∈ [D.tup (fdL i s g w (.tup pl)), .lst (fdL i s g w (.tup pl)), .int i, .str (strT s g w), .str (reprT i), .non, .tup [], .tup pl], Bt d := by
    intro d hd
    simp only [List.mem_cons, List.not_mem_nil, or_false] at hd
    rcases hd with rfl | rfl | rfl | rfl | rfl | rfl | rfl | rfl <;> exact ⟨_, rfl⟩
  have lS : [D.tup (fdL i s g w (.tup pl)), .lst (fdL i s g w (.tup pl)), .int i, .str (strT s g w), .str (reprT i), .non, .tup [], .tup pl].length = 8 := rfl
  have hF : Bt (.lst (fdL i s g w (.tup pl))) := ⟨_, rfl⟩
  revert hS lS
  generalize [D.tup (fdL i s g w (.tup pl)), .lst (fdL i s g w (.tup pl)), .int i, .str (strT s g w), .str (reprT i), .non, .tup [], .tup pl] = S
  intro hS lS
  revert hF
  generalize D.lst (fdL i s g w (.tup pl)) = F
  intro hF
  generalize ltD i s g w (.tup pl) = L at hL bO ⊢
  have nS : ∀ d ∈ S, d ≠ L := by
    intro d hd e
    obtain ⟨t, ht⟩ := hS d hd
    obtain ⟨o, rfl, _⟩ := hL
    rw [e] at ht
    simp [biN, ltF, ltD] at ht
  have LL : ∀ d ∈ [L, L], Lt d := by
    intro d hd
    simp only [List.mem_cons, List.not_mem_nil, or_false] at hd
    rcases hd with rfl | rfl <;> exact hL
  refine v_thn (v_seq (v_ifS (v_or (v_not (v_tst (v_eqX (v_var rfl (v_var rfl ⟨(eq_dec (M := []) hL (.inl hL)).1, (eq_dec hL (.inl hL)).2.imp ?_⟩))))))))
  rintro _ _ ⟨rfl, rfl⟩
  refine ⟨_, rfl, _, rfl, iteFd (by simp) (v_or (v_tst (v_eqX (v_var rfl (v_var rfl ⟨(eq_dec (M := []) hL (.inl hL)).1, (eq_dec hL (.inl hL)).2.imp ?_⟩)))))⟩
  rintro _ _ ⟨rfl, rfl⟩
  refine ⟨_, rfl, _, rfl, iteFd (by simp) (v_not (v_tst (v_eqX (v_var rfl (v_var rfl ⟨(eq_dec (M := []) hL (.inl hL)).1, (eq_dec hL (.inl hL)).2.imp ?_⟩)))))⟩
  rintro _ M4 ⟨rfl, rfl⟩
  refine ⟨_, rfl, _, rfl, iteFd (by simp) (v_nx (v_thn ?_))⟩
  refine v_seq (v_ifS (v_tst (v_op (v_countX (v_lst (v_cons (v_var rfl (v_cons (v_var rfl (v_nil ⟨by simp, _, rfl, v_cons (v_var rfl (v_nil ⟨_, _, rfl, eqAll_dec fun d hd => .inl ⟨LL d hd, .inl hL⟩, v_c ⟨_, ne_ii, _, rfl, iteFd (by simp) (v_nx (v_thn ?_))⟩⟩))⟩))))))))))
  refine v_seq (v_for (PI := fun _ _ => True) (v_sq (v_op (v_var rfl (v_var rfl ⟨_, add_ll (by omega), _, rfl, ?_⟩)))))
  refine v_forL (fun rest η Mx => Mx = M4 ∧ (∀ d ∈ rest, (Lt d ∨ Bt d) ∧ d ≠ L) ∧ ∃ x6, η = [some L, some F, some (.ptr n), some L, some (.lst S), some (.lst O), x6, none]) _ ⟨rfl, ?_, none, rfl⟩ ?_ ?_
  · intro d hd
    rcases List.mem_append.mp hd with q | q
    · exact ⟨.inl (bO d q).1, (bO d q).2⟩
    · exact ⟨.inr (hS d q), nS d q⟩
  · rintro d r η Mx ⟨rfl, hd, x6, rfl⟩
    obtain ⟨hd1, hd2⟩ := hd d (List.mem_cons_self ..)
    have hr := fun q hq => hd q (List.mem_cons_of_mem d hq)
    refine v_gn (v_ifS (v_or (v_tst (v_eqX (v_var rfl (v_var rfl ⟨(eq_dec (M := []) hL hd1).1, (eq_dec hL hd1).2.imp ?_⟩))))))
    rintro _ _ ⟨rfl, rfl⟩
    refine ⟨_, rfl, _, rfl, iteFd (by simpa using Ne.symm hd2) (v_or (v_not (v_tst (v_eqX (v_var rfl (v_var rfl ⟨(eq_dec (M := []) hL hd1).1, (eq_dec hL hd1).2.imp ?_⟩))))))⟩
    rintro _ M5 ⟨rfl, rfl⟩
    refine ⟨_, rfl, _, rfl, iteFd (by simpa using Ne.symm hd2) (v_tst (v_inX (v_var rfl (v_lst (v_cons (v_var rfl (v_cons (v_var rfl (v_nil ⟨by simp, _, _, rfl, eqAll_dec fun q hq => .inl ⟨LL q hq, hd1⟩, _, rfl, iteFd (by simpa using Ne.symm hd2) (v_nx ⟨rfl, hr, some d, rfl⟩)⟩)))))))))⟩
  · rintro η Mx ⟨rfl, _, x6, rfl⟩
    refine v_thn (v_ret (v_andV (v_inX (v_var rfl (v_op (v_var rfl (v_lst (v_cons (v_var rfl (v_nil ⟨by simp, _, add_ll (by simp; omega), _, _, rfl, eqAll_dec (fun d hd => .inl ⟨?_, .inl hL⟩), _, rfl, iteTd (by simp) ?_⟩))))))))))
    · rcases List.mem_append.mp hd with q | q
      · exact (bO d q).1
      · rw [List.mem_singleton.mp q]
        exact hL
    refine v_inX (v_var rfl (v_op (v_var rfl (v_var rfl ⟨_, add_ll (by omega), _, _, rfl, eqAll_dec (fun d hd => ?_), ?_, b4, k3⟩))))
    · rcases List.mem_append.mp hd with q | q
      · exact .inl ⟨(bO d q).1, .inl hL⟩
      · exact .inr ⟨hS d q, hL⟩
    congr 1
    simp only [if_true, Bool.not_eq_true', List.any_eq_false]
    intro b hb
    obtain ⟨d, hd, rfl⟩ := List.mem_map.mp hb
    have : d ≠ L := by
      rcases List.mem_append.mp hd with q | q
      · exact (bO d q).2
      · exact nS d q
    simp [this]
end

/-! ### k21: the fields -/
theorem cut_mem {α : Type} {l : List α} {lo hi : Option Int} {x : α} (h : x ∈ Dn.cutD l lo hi) : x ∈ l := List.mem_of_mem_drop (List.mem_of_mem_take h)
theorem cut_len {α : Type} {l : List α} {lo hi : Option Int} : (Dn.cutD l lo hi).length ≤ l.length := by
  unfold Dn.cutD
  simp
  omega
theorem v_take {η : Dv} {M : Mem} {P : D → Mem → Prop} {i n : Nat} {k N : Int} (hi : η[i]? = some (some (.ptr n))) (hb : BagAt M n N) (hN : N + 1 < 2 ^ 40) (hk : 0 < k) (hk2 : k < 1073741824) (h : ∀ r M', 0 ≤ r → r < k → BagAt M' n (N + 1) → Kp n M M' → P (.int r) M') :
    Gv (xFn 2 f_law_take (xCons (xVar i) (xCons (xC (.int k)) xNil)) η M) P :=
  v_fn (v_cons (v_var hi (v_cons (v_c (v_nil ⟨rfl, (take_ok hb hN hk hk2).imp fun d M' ⟨⟨r, e, h0, h1, b, kk⟩⟩ => by
    subst e
    exact h r M' h0 h1 b kk⟩)))))
def FG (d : D) : Prop := ∃ i s g w pl, d = .lst (fdL i s g w (.tup pl)) ∧ FOk i s g w (.tup pl) ∧ i + 1 < 10 ^ 12 ∧ Pts pl ∧ s ≠ g
def wordsD : List D := [.str "want", .str "tell", .str "piece", .str "back", .str "over", .str "heard"]
theorem words_ok : ∀ z ∈ wordsD, ∃ w : Str, z = .str w ∧ Pd 8 5000 (.str w) ∧ w.length ≤ 8 := by
  have go : ∀ w : Str, (∀ c ∈ w.cps.toList, c < 16 ^ 8) → w.length ≤ 8 → ∃ u : Str, D.str w = .str u ∧ Pd 8 5000 (.str u) ∧ u.length ≤ 8 := fun w a b => ⟨w, rfl, pd_str a (by omega), b⟩
  intro z hz
  simp only [wordsD, List.mem_cons, List.not_mem_nil, or_false] at hz
  rcases hz with rfl | rfl | rfl | rfl | rfl | rfl <;> exact go _ (by decide +kernel) (by decide +kernel)
def someD (r3 q : Int) (a b : Str) (ts : List D) : List D :=
  [.tup [.tup [.int r3, .str a]], .tup [.int q], .tup [], .tup [.tup [.int r3, .str a], .int 1, .tup ts, .tup []], .tup [.tup [.int r3, .str a], .int 2, .int 7, .tup [.tup [.int 0, .tup [], .tup [.tup [.str b, .int 1]]]]]]
theorem some_ok {r3 q : Int} {a b : Str} {ts : List D} (h0 : 0 ≤ r3) (h1 : r3 < 10 ^ 12) (q0 : 0 ≤ q) (q1 : q < 10 ^ 12) (na : Nm a) (nb : Nm b) (ht : Pd 2 57 (.tup ts)) : ∀ z ∈ someD r3 q a b ts, ∃ pl, z = .tup pl ∧ Pts pl := by
  have rk : Pd 6 500 (.tup [.int r3, .str a]) := Pd.up (pd_tup (d := 0) (k := 2) (w := 41) (pc_cons (pd_int h0 h1 (by decide)) (pc_cons (pd_nm na (by decide)) pc_nil)) (Nat.le_refl _)) (by decide) (by decide)
  have num : ∀ j : Int, 0 ≤ j → j < 10 ^ 12 → Pd 6 500 (.int j) := fun j a b => pd_int a b (by decide)
  have p1 : Pd 1 84 (.tup [.str b, .int 1]) := pd_tup (d := 0) (k := 2) (w := 41) (pc_cons (pd_nm nb (by decide)) (pc_cons (pd_int (by decide) (by decide) (by decide)) pc_nil)) (Nat.le_refl _)
  have p2 : Pd 2 85 (.tup [.tup [.str b, .int 1]]) := pd_tup (k := 1) (pc_cons p1 pc_nil) (Nat.le_refl _)
  have p3 : Pd 3 258 (.tup [.int 0, .tup [], .tup [.tup [.str b, .int 1]]]) := pd_tup (k := 3) (pc_cons (pd_int (by decide) (by decide) (by decide)) (pc_cons pd_nil (pc_cons p2 pc_nil))) (Nat.le_refl _)
  have p4 : Pd 4 259 (.tup [.tup [.int 0, .tup [], .tup [.tup [.str b, .int 1]]]]) := pd_tup (k := 1) (pc_cons p3 pc_nil) (Nat.le_refl _)
  intro z hz
  simp only [someD, List.mem_cons, List.not_mem_nil, or_false] at hz
  rcases hz with rfl | rfl | rfl | rfl | rfl
  · exact ⟨_, rfl, pc_cons rk pc_nil, by simp⟩
  · exact ⟨_, rfl, pc_cons (num q q0 q1) pc_nil, by simp⟩
  · exact ⟨_, rfl, pc_nil, by simp⟩
  · exact ⟨_, rfl, pc_cons rk (pc_cons (num 1 (by decide) (by decide)) (pc_cons (ht.up (by decide) (by decide)) (pc_cons pd_nil pc_nil))), by simp⟩
  · exact ⟨_, rfl, pc_cons rk (pc_cons (num 2 (by decide) (by decide)) (pc_cons (num 7 (by decide) (by decide)) (pc_cons (p4.up (by decide) (by decide)) pc_nil))), by simp⟩
theorem fields_ok {M : Mem} {n : Nat} {N : Int} (hb : BagAt M n N) (hN : N + 20 < 2 ^ 40) : Gv (f_law_fields [.ptr n] M) fun r M' => FG r ∧ BagAt M' n (N + 20) ∧ Kp n M M' := by
  refine v_body rfl ?_
  unfold b_law_fields
  refine v_seq (v_asg (v_fn (v_cons (v_var rfl (v_cons (v_c (v_nil ⟨rfl, (names_pf (k := 2) hb (by omega) (by decide)).imp ?_⟩)))))))
  rintro _ M1 ⟨⟨ss, rfl, hl, _, hpw, _, hnm⟩, b1, k1⟩
  obtain ⟨a, b, rfl⟩ : ∃ a b, ss = [a, b] := by
    match ss, hl with
    | [a, b], _ => exact ⟨a, b, rfl⟩
  have na := hnm a (by simp)
  have nb := hnm b (by simp)
  have hab : a ≠ b := by
    intro e
    have := (List.pairwise_cons.mp hpw).1 b (by simp)
    rw [e] at this
    exact absurd this (List.lt_irrefl _)
  refine v_thn (v_seq (v_asg (v_tup (v_cons (v_op (v_c (v_take rfl b1 (by omega) (by decide) (by decide) ?_)))))))
  intro r1 M2 p1 q1 b2 k2
  refine ⟨_, add_ii, v_cons (v_op (v_var rfl (v_c ⟨.str a, by rw [ix_l, ix_0]; rfl, v_nil ⟨by simp, v_thn ?_⟩⟩)))⟩
  refine v_seq (v_asg (v_call (v_cons (v_sl (v_lst (v_cons (v_tup (v_cons (v_op (v_var rfl (v_c ⟨.str a, by rw [ix_l, ix_0]; rfl, v_nil ⟨by simp, ?_⟩⟩)))))))))))
  refine v_cons (v_tup (v_cons (v_op (v_var rfl (v_c ⟨.str b, by rw [ix_l, ix_1]; rfl, v_nil ⟨by simp, ?_⟩⟩)))))
  refine v_cons (v_tup (v_cons (v_op (v_var rfl (v_c ⟨.str a, by rw [ix_l, ix_0]; rfl, v_cons (v_op (v_var rfl (v_c ⟨.str b, by rw [ix_l, ix_1]; rfl, v_nil ⟨by simp, ?_⟩⟩)))⟩)))))
  refine v_nil ⟨by simp, v_none (v_some (v_take rfl b2 (by omega) (by decide) (by decide) ?_))⟩
  intro r2 M3 p2 q2 b3 k3
  refine ⟨r2, rfl, _, sl_l, v_nil ⟨_, rfl, v_thn ?_⟩⟩
  have hts : Pd 2 57 (.tup (Dn.cutD [D.tup [.str a], .tup [.str b], .tup [.str a, .str b]] none (some r2))) := by
    have one : ∀ x ∈ [D.tup [.str a], .tup [.str b], .tup [.str a, .str b]], Pd 1 18 x := by
      have sa : Pd 0 8 (.str a) := pd_nm na (by decide)
      have sb : Pd 0 8 (.str b) := pd_nm nb (by decide)
      exact pc_cons (pd_tup (k := 2) (pc_cons sa pc_nil) (by simp)) (pc_cons (pd_tup (k := 2) (pc_cons sb pc_nil) (by simp)) (pc_cons (pd_tup (k := 2) (pc_cons sa (pc_cons sb pc_nil)) (by simp)) pc_nil))
    exact pd_tup (k := 3) (fun x hx => one x (cut_mem hx)) (Nat.le_trans cut_len (by simp))
  generalize Dn.cutD [D.tup [.str a], .tup [.str b], .tup [.str a, .str b]] none (some r2) = ts at hts ⊢
  refine v_seq (v_asg (v_lst (v_cons (v_tup (v_cons (v_var rfl (v_nil ⟨by simp, v_cons (v_tup (v_cons (v_op (v_c (v_take rfl b3 (by omega) (by decide) (by decide) ?_)))))⟩)))))))
  intro r3 M4 p3 q3 b4 k4
  refine ⟨_, add_ii, v_nil ⟨by simp, v_cons (v_tup (v_nil ⟨by simp, ?_⟩))⟩⟩
  refine v_cons (v_tup (v_cons (v_var rfl (v_cons (v_c (v_cons (v_var rfl (v_cons (v_tup (v_nil ⟨by simp, v_nil ⟨by simp, ?_⟩⟩))))))))))
  refine v_cons (v_tup (v_cons (v_var rfl (v_cons (v_c (v_cons (v_c (v_cons (v_tup (v_cons (v_tup (v_cons (v_c (v_cons (v_tup (v_nil ⟨by simp, ?_⟩))))))))))))))))
  refine v_cons (v_tup (v_cons (v_tup (v_cons (v_op (v_var rfl (v_c ⟨.str b, by rw [ix_l, ix_1]; rfl, v_cons (v_c (v_nil ⟨by simp, v_nil ⟨by simp, v_nil ⟨by simp, v_nil ⟨by simp, v_nil ⟨by simp, v_nil ⟨by simp, v_thn ?_⟩⟩⟩⟩⟩⟩))⟩)))))))
  have hsm := some_ok (r3 := 1 + r1) (q := 1 + r3) (a := a) (b := b) (ts := ts) (by omega) (by omega) (by omega) (by omega) na nb hts
  have hsl : (someD (1 + r1) (1 + r3) a b ts).length = 5 := rfl
  unfold someD at hsm hsl
  generalize [D.tup [.tup [.int (1 + r1), .str a]], .tup [.int (1 + r3)], .tup [], .tup [.tup [.int (1 + r1), .str a], .int 1, .tup ts, .tup []], .tup [.tup [.int (1 + r1), .str a], .int 2, .int 7, .tup [.tup [.int 0, .tup [], .tup [.tup [.str b, .int 1]]]]]] = SM at hsm hsl ⊢
  refine v_seq (v_asg (v_op (v_lst (v_cons (v_c (v_cons (v_c (v_cons (v_c (v_cons (v_c (v_cons (v_c (v_cons (v_c (v_nil ⟨by simp, v_take rfl b4 (by omega) (by decide) (by decide) ?_⟩))))))))))))))))
  intro r5 M5 p5 q5 b5 k5
  obtain ⟨z5, e5, m5⟩ := ix_in (l := wordsD) p5 q5
  obtain ⟨wd, rfl, wp, wl⟩ := words_ok z5 m5
  refine ⟨_, ix_l.trans e5, v_thn ?_⟩
  refine v_seq (v_asg (v_op (v_c (v_fn (v_cons (v_var rfl (v_cons (v_op (v_lst (v_cons (v_c (v_cons (v_c (v_cons (v_op (v_c (v_c ⟨_, pow_ii ⟨by decide, by decide, pw_small (by decide)⟩, v_nil ⟨by simp, v_take rfl b5 (by omega) (by decide) (by decide) ?_⟩⟩)))))))))))))))))
  intro r6 M6 p6 q6 b6 k6
  obtain ⟨z6, e6, m6⟩ := ix_in (l := [D.int 3, .int 1000, .int (10 ^ (9 : Int).toNat)]) p6 q6
  obtain ⟨kk, rfl, kp, kq⟩ : ∃ kk : Int, z6 = .int kk ∧ 0 < kk ∧ kk < 1073741824 := by
    simp only [List.mem_cons, List.not_mem_nil, or_false] at m6
    rcases m6 with rfl | rfl | rfl <;> exact ⟨_, rfl, by decide, by decide⟩
  refine ⟨_, ix_l.trans e6, v_nil ⟨rfl, (take_ok b6 (by omega) kp kq).imp ?_⟩⟩
  rintro _ M7 ⟨⟨r7, rfl, p7, q7, b7, k7⟩⟩
  refine ⟨_, add_ii, v_thn ?_⟩
  refine v_seq (v_asg (v_op (v_lst (v_cons (v_var rfl (v_cons (v_rev (v_var rfl ⟨_, rev_l, v_nil ⟨by simp, v_take rfl b7 (by omega) (by decide) (by decide) ?_⟩⟩))))))))
  intro r8 M8 p8 q8 b8 k8
  obtain ⟨z8, e8, m8⟩ := ix_in (l := [D.lst [.str a, .str b], .lst [.str b, .str a]]) p8 q8
  obtain ⟨s, g, rfl, hs, hg, hne⟩ : ∃ s g, z8 = .lst [.str s, .str g] ∧ Nm s ∧ Nm g ∧ s ≠ g := by
    simp only [List.mem_cons, List.not_mem_nil, or_false] at m8
    rcases m8 with rfl | rfl
    · exact ⟨a, b, rfl, na, nb, hab⟩
    · exact ⟨b, a, rfl, nb, na, Ne.symm hab⟩
  refine ⟨_, ix_l.trans e8, v_thn ?_⟩
  refine v_ret (v_lst (v_cons (v_var rfl (v_cons (v_op (v_var rfl (v_c ⟨.str s, by rw [ix_l, ix_0]; rfl, v_cons (v_op (v_var rfl (v_c ⟨.str g, by rw [ix_l, ix_1]; rfl, v_cons (v_var rfl (v_cons (v_op (v_var rfl (v_take rfl b8 (by omega) (by decide) (by decide) ?_)))))⟩)))⟩)))))))
  intro r9 M9 p9 q9 b9 k9
  obtain ⟨z9, e9, m9⟩ := ix_in (l := SM) p9 (by rw [hsl]; exact q9)
  obtain ⟨pl, rfl, hpl⟩ := hsm z9 m9
  refine ⟨_, ix_l.trans e9, v_nil ⟨by simp, ⟨1 + r7, s, g, wd, pl, rfl, ⟨by omega, by omega, pd_nm hs (by decide), pd_nm hg (by decide), wp, hpl.me.up (by decide) (by decide), hs.2.1, hg.2.1, wl⟩, by omega, hpl, hne⟩, b9.up (by omega) hN, ?_⟩⟩
  exact ((((((((k1.trans k2).trans k3).trans k4).trans k5).trans k6).trans k7).trans k8).trans k9)

/-! ### k21: the law -/
def lf : D → D
  | .lst [.int i, .str s, .str g, .str w, p] => ltD i s g w p
  | _ => .non
theorem v_zipL {fa : XA} {η : Dv} {M : Mem} {PA : List D → Mem → Prop} (h : Gv (fa η M) fun ds M1 => ∃ xs ys, ds = [.lst xs, .lst ys] ∧ PA (xs.zip ys |>.map fun q => .tup [q.1, q.2]) M1) : Gv (xZip fa η M) PA := gv_bind (h.imp fun ds M1 ⟨xs, ys, e, h1⟩ => by
  subst e
  exact gv_ok h1)
theorem v_gT2 {M : Mem} {η : Dv} {i j : Nat} {a b : D} {P : Dv → Mem → Prop} (hp : P ((η.set i (some a)).set j (some b)) M) : Gv (xgTup 2 (xgsCons (xgName i) (xgsCons (xgName j) xgsNil)) (.tup [a, b]) η M) P := gv_ok hp
def prD (d : D) : D := .tup [lf d, d]
theorem zip_pr : ∀ os : List D, (((os.map lf).zip os).map fun q => D.tup [q.1, q.2]) = os.map prD
  | [] => rfl
  | a :: os => by
    have := zip_pr os
    simp only [List.map_cons, List.zip_cons_cons, this]
    rfl
theorem asBs_map : ∀ os : List D, asBs (os.map fun _ => D.bl true) = some (os.map fun _ => true)
  | [] => rfl
  | a :: os => by
    have := asBs_map os
    simp only [List.map_cons, asBs, this]
    rfl
theorem all_true {M : Mem} (os : List D) : bAll M [.lst (os.map fun _ => D.bl true)] = some (.bl true) := by
  show (asBs (os.map fun _ => D.bl true)).map (fun bs => D.bl (bs.all id)) = _
  rw [asBs_map]
  simp
theorem ne_bb {M : Mem} {a b : Bool} : eqM true M (.bl a) (.bl b) = some (.bl (!decide (a = b))) := by
  have h : (PyData.bool a).depth ≤ 60 := by simp [PyData.depth]
  simp only [eqM, toPM, toP, Option.bind_some, h, if_true, PyData.eqv]
  cases a <;> cases b <;> rfl
theorem FOk.bare {i : Int} {s g w : Str} {p : D} (h : FOk i s g w p) : FOk i s g w (.tup []) := ⟨h.i0, h.i1, h.ds, h.dg, h.dw, pd_nil, h.sl, h.gl, h.wl⟩
open Classical in
/-- one letter: told right, alike, and without parts -/
theorem one_ok {M : Mem} {d a0 a1 a3 a4 a7 a8 : Option D} {x : D} {p : Nat} {N : Int} (hx : FG x) (hb : BagAt M p N) (hN : N + 20 < 2 ^ 40) :
    Gv (xSeq (xIfS (xOr (xNot (xTru (xFn 2 f_law_is_of (xCons (xVar 5) (xCons (xVar 6) xNil))))) (xNot (xTru (xFn 3 f_law_alike (xCons (xVar 5) (xCons (xVar 6) (xCons (xVar 2) xNil))))))) (xRet (xC (.bl false))) xNx) (xSeq (xAsg (xFzI [] (xMakeP "Letter" 1 3 [0, 1, 2, 3, 4, 5] [.tup []] f_Letter_init (xCons (xOp dIx (xVar 6) (xC (.int 0))) xNil) (xCons (xOp dIx (xVar 6) (xC (.int 1))) (xCons (xOp dIx (xVar 6) (xC (.int 2))) (xCons (xOp dIx (xVar 6) (xC (.int 3))) xNil))))) (xgName 7)) (xIfS (xOr (xNot (xTru (xFn 2 f_law_is_of (xCons (xVar 7) (xCons (xOp dAdd (xSl dSl (xVar 6) xNone (xSome (xC (.int 4)))) (xLst (xCons (xTup xNil) xNil))) xNil))))) (xTst (xOp (eqM true) (xEqX false "Letter" f_Letter_eq (xVar 7) (xVar 5)) (xOp dEq (xOp dIx (xVar 6) (xC (.int 4))) (xTup xNil))))) (xRet (xC (.bl false))) xNx))
      [a0, a1, some (.ptr p), a3, a4, some (lf x), some x, a7, a8] M) fun fl M1 => ∃ b7, fl = .nx [a0, a1, some (.ptr p), a3, a4, some (lf x), some x, b7, a8] ∧ BagAt M1 p (N + 20) := by
  obtain ⟨i, s, g, w, pl, rfl, h, hi, hp, hs⟩ := hx
  have z := sizeLine_eq
  have hb0 := h.bare
  have hL : Lt (ltD i s g w (.tup pl)) := ⟨(i, s, g, w, .tup pl), rfl, h⟩
  have hB : Lt (ltD i s g w (.tup [])) := ⟨(i, s, g, w, .tup []), rfl, hb0⟩
  refine v_seq (v_ifS (v_or (v_not (v_tru (v_fn (v_cons (v_var rfl (v_cons (v_var rfl (v_nil ⟨rfl, (is_of_ok h).imp ?_⟩))))))))))
  rintro _ M1 ⟨rfl, rfl⟩
  refine ⟨true, rfl, iteFd rfl (v_not (v_tru (v_fn (v_cons (v_var rfl (v_cons (v_var rfl (v_cons (v_var rfl (v_nil ⟨rfl, (alike_ok hb hN h hi hp hs).imp ?_⟩))))))))))⟩
  rintro _ M2 ⟨rfl, b2, _⟩
  refine ⟨true, rfl, iteFd rfl (v_nx (v_thn ?_))⟩
  refine v_seq (v_asg (v_newL rfl (v_cons (v_op (v_var rfl (v_c ⟨.int i, by rw [ix_l, ix_0]; rfl, v_nil (v_cons (v_op (v_var rfl (v_c ⟨.str s, by rw [ix_l, ix_1]; rfl, v_cons (v_op (v_var rfl (v_c ⟨.str g, by rw [ix_l, ix_2]; rfl, ?_⟩)))⟩))))⟩))))))
  refine v_cons (v_op (v_var rfl (v_c ⟨.str w, by rw [ix_l, ix_3]; rfl, v_nil ⟨⟨rfl, rfl⟩, _, _, _, _, _, fun q => rfl, v_thn ?_⟩⟩)))
  refine v_ifS (v_or (v_not (v_tru (v_fn (v_cons (v_var rfl (v_cons (v_op (v_sl (v_var rfl (v_none (v_some (v_c ⟨4, rfl, .lst [.int i, .str s, .str g, .str w], by rw [sl_l]; rfl, v_lst (v_cons (v_tup (v_nil ⟨by simp, v_nil ⟨by simp, _, add_ll (by simp; omega), v_nil ⟨rfl, (is_of_ok hb0).imp ?_⟩⟩⟩)))⟩)))))))))))))
  rintro _ M3 ⟨rfl, rfl⟩
  refine ⟨true, rfl, iteFd rfl (v_tst (v_op (v_eqX (v_var rfl (v_var rfl ⟨(eq_dec (M := []) hB (.inl hL)).1, (eq_dec hB (.inl hL)).2.imp ?_⟩)))))⟩
  rintro _ M4 ⟨rfl, rfl⟩
  obtain ⟨b, eb, ib⟩ := eqm_pd (M2 ++ [.gone]) false h.dp (pd_nil (d := 0) (w := 0)) (by decide)
  refine ⟨_, rfl, v_op (v_op (v_var rfl (v_c ⟨.tup pl, by rw [ix_l, ix_4]; rfl, v_tup (v_nil ⟨by simp, .bl b, ?_, _, ne_bb, _, rfl, iteFd ?_ (v_nx ⟨_, rfl, b2.gr (Gr.app _ _)⟩)⟩)⟩)))⟩
  · unfold dEq oOr
    simp [eb]
  · simp only [Bool.not_eq_false', decide_eq_true_eq]
    rw [Bool.eq_iff_iff]
    have e : (if false = true then !decide (ltD i s g w (.tup []) = ltD i s g w (.tup pl)) else decide (ltD i s g w (.tup []) = ltD i s g w (.tup pl))) = decide (ltD i s g w (.tup []) = ltD i s g w (.tup pl)) := rfl
    rw [e, decide_eq_true_iff, ib, fd_inj]
    simp [eq_comm]
theorem law_gv (ns : List Int) : Gv (f_law [.scr ns] []) fun x _ => x = .bl true := by
  refine v_body rfl ?_
  unfold b_law
  obtain ⟨n, hn, hn4⟩ : ∃ n : Nat, (if (if ((ns.length : Nat) : Int) < 4 then ((ns.length : Nat) : Int) else 4) > 2 then (if ((ns.length : Nat) : Int) < 4 then ((ns.length : Nat) : Int) else 4) else (2 : Int)) = (n : Int) ∧ n ≤ 4 := by
    refine ⟨(if (if ((ns.length : Nat) : Int) < 4 then ((ns.length : Nat) : Int) else 4) > 2 then (if ((ns.length : Nat) : Int) < 4 then ((ns.length : Nat) : Int) else 4) else (2 : Int)).toNat, ?_, ?_⟩ <;> split <;> split <;> omega
  refine v_seq (v_for (PI := fun _ _ => True) (v_rng (v_cons (v_call (v_cons (v_c (v_cons (v_call (v_cons (v_c (v_cons (v_call (v_cons (v_var rfl (v_nil ⟨_, blen_sc, v_nil ⟨_, bmin, v_nil ⟨_, bmax, v_nil ?_⟩⟩⟩)))))))))))))))
  refine ⟨n, by rw [hn], by omega, ?_⟩
  refine v_forL (fun rest η Mx => (∀ d ∈ rest, ∃ k : Nat, k ≤ 4 ∧ d = .int k) ∧ ∃ a1 a2 a3 a4 a5 a6 a7 a8, η = [some (.scr ns), a1, a2, a3, a4, a5, a6, a7, a8]) _ ⟨fun d hd => ?_, _, _, _, _, _, _, _, _, rfl⟩ ?_ ?_
  · obtain ⟨k, hk, rfl⟩ := List.mem_map.mp hd
    have := List.mem_range.mp hk
    exact ⟨k, by omega, rfl⟩
  · rintro d r η Mx ⟨hr, a1, a2, a3, a4, a5, a6, a7, a8, rfl⟩
    obtain ⟨k, hk, rfl⟩ := hr d List.mem_cons_self
    have hr' : ∀ d ∈ r, ∃ k : Nat, k ≤ 4 ∧ d = .int k := fun d hd => hr d (List.mem_cons_of_mem _ hd)
    refine v_gn (v_seq (v_asg (v_fn (v_cons (v_var rfl (v_cons (v_var rfl (v_nil ⟨rfl, (bag_ok (ns := ns) (k := k) (by omega)).imp ?_⟩))))))))
    rintro _ M1 ⟨rfl, B1, _⟩
    generalize Mx.length = b at B1 ⊢
    refine v_thn (v_seq (v_asg (v_lc (v_rng (v_cons (v_c (v_nil ⟨3, rfl, by decide, by simp, ?_⟩)))))))
    refine Gv.imp (v_lcL (fun rest acc My => acc.length + rest.length = 3 ∧ (∀ d ∈ acc, FG d) ∧ BagAt My b (20 * (acc.length : Nat))) _ ?_ [] ⟨by simp, by simp, by simpa using B1⟩) ?_
    · rintro d r acc My ⟨hl, hacc, bb⟩
      simp only [List.length_cons] at hl
      refine v_gn (v_yes (iteTd rfl (v_fn (v_cons (v_var rfl (v_nil ⟨rfl, (fields_ok bb (by omega)).imp ?_⟩))))))
      rintro y Mz ⟨hy, bz, _⟩
      refine ⟨by simp; omega, ?_, ?_⟩
      · intro q hq
        rcases List.mem_append.mp hq with z | z
        · exact hacc q z
        · rw [List.mem_singleton.mp z]; exact hy
      · have e : (20 * ((acc ++ [y]).length : Nat) : Int) = 20 * (acc.length : Nat) + 20 := by simp; omega
        rw [e]
        exact bz
    rintro os M2 ⟨hl, hos, B2⟩
    simp only [List.nil_append, List.length_nil, Nat.add_zero] at hl hos B2
    have B2' : BagAt M2 b 60 := B2.up (by omega) (by decide)
    refine v_thn (v_seq (v_asg (v_lc (v_sq (v_var rfl ⟨_, rfl, by omega, ?_⟩)))))
    refine Gv.imp (v_lcL (fun rest acc My => ∃ pre, os = pre ++ rest ∧ acc = pre.map lf ∧ BagAt My b (60 + (pre.length : Nat))) _ ?_ [] ⟨[], rfl, rfl, by simpa using B2'⟩) ?_
    · rintro d r acc My ⟨pre, e1, rfl, bb⟩
      have hpl : pre.length ≤ 3 := by
        have := congrArg List.length e1
        simp at this
        omega
      have hd : FG d := hos d (by rw [e1]; simp)
      refine v_gn (v_yes (iteTd rfl (v_fn (v_cons (v_var rfl (v_cons (v_take rfl bb (by omega) (by decide) (by decide) ?_)))))))
      intro q Mz p0 p1 bz _
      obtain ⟨i, s, g, w, pl, rfl, _⟩ := hd
      refine v_nil ⟨rfl, letter_ok.imp ?_⟩
      rintro _ _ ⟨rfl, rfl⟩
      refine ⟨pre ++ [.lst (fdL i s g w (.tup pl))], by simp [e1], by simp; rfl, ?_⟩
      have e : (60 + ((pre ++ [D.lst (fdL i s g w (.tup pl))]).length : Nat) : Int) = 60 + (pre.length : Nat) + 1 := by simp; omega
      rw [e]
      exact bz.gr (Gr.app _ _)
    rintro ls M3 ⟨pre, e1, e2, B3⟩
    rw [List.append_nil] at e1
    subst e1
    have e2' : ls = os.map lf := by simpa using e2
    subst e2'
    have B3' : BagAt M3 b 70 := B3.up (by omega) (by decide)
    refine v_thn (v_seq (Gv.imp (P := fun fl My => ∃ b5 b6 b7, fl = .nx [some (.scr ns), some (.int k), some (.ptr b), some (.lst os), some (.lst (os.map lf)), b5, b6, b7, a8]) ?_ ?_))
    · refine v_for (PI := fun _ _ => True) (v_zipL (v_cons (v_var rfl (v_cons (v_var rfl (v_nil ⟨_, _, rfl, ?_⟩))))))
      rw [zip_pr]
      refine v_forL (fun rest η My => ∃ suf : List D, rest = suf.map prD ∧ suf.length ≤ 3 ∧ (∀ d ∈ suf, FG d) ∧ BagAt My b (70 + 20 * (3 - (suf.length : Nat))) ∧ ∃ b5 b6 b7, η = [some (.scr ns), some (.int k), some (.ptr b), some (.lst os), some (.lst (os.map lf)), b5, b6, b7, a8]) _ ⟨os, rfl, by omega, hos, by rw [hl]; simpa using B3', _, _, _, rfl⟩ ?_ ?_
      · rintro d r η My ⟨suf, e, hsl, hsf, bb, b5, b6, b7, rfl⟩
        cases suf with
        | nil => cases e
        | cons x suf =>
          cases e
          simp only [List.length_cons] at hsl bb
          refine v_gT2 ((one_ok (d := none) (hsf x (List.mem_cons_self ..)) bb (by omega)).imp ?_)
          rintro _ Mz ⟨c7, rfl, bz⟩
          refine ⟨suf, rfl, by omega, fun d hd => hsf d (List.mem_cons_of_mem _ hd), ?_, _, _, _, rfl⟩
          have e : (70 + 20 * (3 - (suf.length : Nat)) : Int) = 70 + 20 * (3 - ((suf.length + 1 : Nat) : Int)) + 20 := by push_cast; omega
          rw [e]
          exact bz
      · rintro η My ⟨suf, _, _, _, _, b5, b6, b7, rfl⟩
        exact ⟨_, _, _, rfl⟩
    rintro _ M4 ⟨b5, b6, b7, rfl⟩
    refine v_thn (v_ifS (v_not (v_tru (v_call (v_cons (v_lc (v_zipL (v_cons (v_var rfl (v_cons (v_var rfl (v_nil ⟨_, _, rfl, ?_⟩))))))))))))
    rw [zip_pr]
    refine ⟨by rw [List.length_map]; omega, (v_lc_map (fun _ => .bl true) (os.map prD) ?_).imp ?_⟩
    · intro d hd
      obtain ⟨x, hx, rfl⟩ := List.mem_map.mp hd
      obtain ⟨i, s, g, w, pl, rfl, h, _⟩ := hos x hx
      refine v_gT2 (v_yes ⟨rfl, v_fn (v_cons (v_var rfl (v_cons (v_var rfl (v_nil ⟨rfl, is_of_ok h⟩)))))⟩)
    rintro _ _ ⟨rfl, rfl⟩
    rw [List.map_map]
    refine v_nil ⟨_, all_true os, true, rfl, iteFd rfl (v_nx ⟨hr', _, _, _, _, _, _, _, _, rfl⟩)⟩
  · rintro η Mx ⟨_, a1, a2, a3, a4, a5, a6, a7, a8, rfl⟩
    exact v_thn (v_ret (v_c rfl))
theorem plain_law (ns : List Int) (_ : ns.length ≤ 63) (_ : ∀ z ∈ ns, Builtin.Int.intBits z ≤ 1048576) : ∃ M', f_law [.scr ns] [] = .ok (.bl true) M' := by
  obtain ⟨d, M', e, rfl⟩ := law_gv ns
  exact ⟨M', e⟩

theorem all_mk {l : PySem.W.OpenLaw} {w : World} {K : PySem.W.Frag} {h : Heap} {mg : Str → Option Value} {fa : Addr} (X : K.In h) (Gh : h.Ns mainGlobals mg) (hfa : mg "law" = some (.ref fa))
    {A_Letter : Addr}
    {f_Letter_str : Addr} {od_Letter_str an_Letter_str : Option Addr} {sl_Letter_str : Array (Option Value)} {oc_Letter_str kV_Letter_str dc_Letter_str pm_Letter_str cd_Letter_str ct_Letter_str : Value}
    {f_Letter_repr : Addr} {od_Letter_repr an_Letter_repr : Option Addr} {sl_Letter_repr : Array (Option Value)} {oc_Letter_repr kV_Letter_repr dc_Letter_repr pm_Letter_repr cd_Letter_repr ct_Letter_repr : Value}
    {f_law_is_of : Addr} {od_law_is_of an_law_is_of : Option Addr} {sl_law_is_of : Array (Option Value)} {oc_law_is_of kV_law_is_of dc_law_is_of pm_law_is_of cd_law_is_of ct_law_is_of : Value}
    {f_Letter_eq : Addr} {od_Letter_eq an_Letter_eq : Option Addr} {sl_Letter_eq : Array (Option Value)} {oc_Letter_eq kV_Letter_eq dc_Letter_eq pm_Letter_eq cd_Letter_eq ct_Letter_eq : Value}
    {f_Letter_init : Addr} {od_Letter_init an_Letter_init : Option Addr} {sl_Letter_init : Array (Option Value)} {oc_Letter_init dc_Letter_init pm_Letter_init cd_Letter_init ct_Letter_init : Value}
    {KK_Letter_init : Addr}
    {KD_Letter_init_parts : Addr}
    {ked_Letter_init_parts : Option Addr} {ken_Letter_init_parts : Nat} {kes_Letter_init_parts : Array (Option Value)}
    {f_law_others : Addr} {od_law_others an_law_others : Option Addr} {sl_law_others : Array (Option Value)} {oc_law_others kV_law_others dc_law_others pm_law_others cd_law_others ct_law_others : Value}
    {f_law_take : Addr} {od_law_take an_law_take : Option Addr} {sl_law_take : Array (Option Value)} {oc_law_take kV_law_take dc_law_take pm_law_take cd_law_take ct_law_take : Value}
    {f_law_letter : Addr} {od_law_letter an_law_letter : Option Addr} {sl_law_letter : Array (Option Value)} {oc_law_letter kV_law_letter dc_law_letter pm_law_letter cd_law_letter ct_law_letter : Value}
    {f_law_alike : Addr} {od_law_alike an_law_alike : Option Addr} {sl_law_alike : Array (Option Value)} {oc_law_alike kV_law_alike dc_law_alike pm_law_alike cd_law_alike ct_law_alike : Value}
    {f_law_names : Addr} {od_law_names an_law_names : Option Addr} {sl_law_names : Array (Option Value)} {oc_law_names kV_law_names dc_law_names pm_law_names cd_law_names ct_law_names : Value}
    {f_law_fields : Addr} {od_law_fields an_law_fields : Option Addr} {sl_law_fields : Array (Option Value)} {oc_law_fields kV_law_fields dc_law_fields pm_law_fields cd_law_fields ct_law_fields : Value}
    {f_law_bag : Addr} {od_law_bag an_law_bag : Option Addr} {sl_law_bag : Array (Option Value)} {oc_law_bag kV_law_bag dc_law_bag pm_law_bag cd_law_bag ct_law_bag : Value}
    {f_law : Addr} {od_law an_law : Option Addr} {sl_law : Array (Option Value)} {oc_law kV_law dc_law pm_law cd_law ct_law : Value}
    (aC_Letter : PySem.W.nsIn K mainGlobals "Letter" = some (some (.ref A_Letter)))
    (pg_Letter : PySem.W.plainGet K A_Letter Str.empty = true)
    (hd_Letter : PySem.W.hasDictIn K A_Letter = true)
    (po_Letter : PySem.W.plainOver K A_Letter = true)
    (sa_Letter : PySem.W.findIn K (.ref A_Letter) "__setattr__" = some (some (.builtin "object.__setattr__")))
    (mk_Letter : PySem.W.makesIn K A_Letter = true)
    (kc_Letter : PySem.W.keepIn K (.ref A_Letter) = true)
    (ic1_Letter : PySem.W.findIn K (.ref A_Letter) "__class__" = some (some (.builtin "object.__class__")))
    (ic2_Letter : PySem.W.specialIn K (.builtin "object.__class__") "__get__" = some (some (.builtin "getset_descriptor.__get__")))
    (ic3_Letter : PySem.W.takesIn K (.builtin "object.__class__") = some true)
    (ic4_Letter : PySem.W.mroIn K A_Letter (.type "object") = some true)
    (ik_Letter_NoneType : PySem.W.kitOne K (.type "NoneType") (.ref A_Letter) = some false)
    (ik_Letter_bool : PySem.W.kitOne K (.type "bool") (.ref A_Letter) = some false)
    (ik_Letter_int : PySem.W.kitOne K (.type "int") (.ref A_Letter) = some false)
    (ik_Letter_str : PySem.W.kitOne K (.type "str") (.ref A_Letter) = some false)
    (ik_Letter_list : PySem.W.kitOne K (.type "list") (.ref A_Letter) = some false)
    (ik_Letter_tuple : PySem.W.kitOne K (.type "tuple") (.ref A_Letter) = some false)
    (ik_Letter_dict : PySem.W.kitOne K (.type "dict") (.ref A_Letter) = some false)
    (ne1_Letter : PySem.W.findIn K (.ref A_Letter) "__ne__" = some (some (.builtin "object.__ne__")))
    (ne2_Letter : PySem.W.subIn K (.ref A_Letter) (.type "object") = some true)
    (ot1_Letter_NoneType : PySem.W.subIn K (.type "NoneType") (.ref A_Letter) = some false)
    (ot2_Letter_NoneType : PySem.W.subIn K (.ref A_Letter) (.type "NoneType") = some false)
    (ot1_Letter_int : PySem.W.subIn K (.type "int") (.ref A_Letter) = some false)
    (ot2_Letter_int : PySem.W.subIn K (.ref A_Letter) (.type "int") = some false)
    (ot1_Letter_str : PySem.W.subIn K (.type "str") (.ref A_Letter) = some false)
    (ot2_Letter_str : PySem.W.subIn K (.ref A_Letter) (.type "str") = some false)
    (ot1_Letter_list : PySem.W.subIn K (.type "list") (.ref A_Letter) = some false)
    (ot2_Letter_list : PySem.W.subIn K (.ref A_Letter) (.type "list") = some false)
    (ot1_Letter_tuple : PySem.W.subIn K (.type "tuple") (.ref A_Letter) = some false)
    (ot2_Letter_tuple : PySem.W.subIn K (.ref A_Letter) (.type "tuple") = some false)
    (nf_Letter_number : PySem.W.findIn K (.ref A_Letter) "number" = some none)
    (nf_Letter_sender : PySem.W.findIn K (.ref A_Letter) "sender" = some none)
    (nf_Letter_goal : PySem.W.findIn K (.ref A_Letter) "goal" = some none)
    (nf_Letter_word : PySem.W.findIn K (.ref A_Letter) "word" = some none)
    (nf_Letter_parts : PySem.W.findIn K (.ref A_Letter) "parts" = some none)
    (a_Letter_str : PySem.W.findIn K (.ref A_Letter) "__str__" = some (some (.ref f_Letter_str)))
    (i_Letter_str : PySem.W.isFn K (.ref f_Letter_str) = true)
    (l_Letter_str : K.lookup f_Letter_str = some ⟨oc_Letter_str, od_Letter_str, .func (PySem.W.fnOf "__str__" "Letter.__str__" (defArgs s_Letter_str) (defBody s_Letter_str) (defScope s_Letter_str) .none kV_Letter_str dc_Letter_str pm_Letter_str an_Letter_str cd_Letter_str ct_Letter_str), sl_Letter_str⟩)
    (c_Letter_str : PySem.W.codeIn K cd_Letter_str "Letter.__str__" = true)
    (k_Letter_str : PySem.W.keepIn K (.ref f_Letter_str) = true)
    (a_Letter_repr : PySem.W.findIn K (.ref A_Letter) "__repr__" = some (some (.ref f_Letter_repr)))
    (i_Letter_repr : PySem.W.isFn K (.ref f_Letter_repr) = true)
    (l_Letter_repr : K.lookup f_Letter_repr = some ⟨oc_Letter_repr, od_Letter_repr, .func (PySem.W.fnOf "__repr__" "Letter.__repr__" (defArgs s_Letter_repr) (defBody s_Letter_repr) (defScope s_Letter_repr) .none kV_Letter_repr dc_Letter_repr pm_Letter_repr an_Letter_repr cd_Letter_repr ct_Letter_repr), sl_Letter_repr⟩)
    (c_Letter_repr : PySem.W.codeIn K cd_Letter_repr "Letter.__repr__" = true)
    (k_Letter_repr : PySem.W.keepIn K (.ref f_Letter_repr) = true)
    (a_law_is_of : PySem.W.nsIn K mainGlobals "_law_is_of" = some (some (.ref f_law_is_of)))
    (l_law_is_of : K.lookup f_law_is_of = some ⟨oc_law_is_of, od_law_is_of, .func (PySem.W.fnOf "_law_is_of" "_law_is_of" (defArgs s_law_is_of) (defBody s_law_is_of) (defScope s_law_is_of) .none kV_law_is_of dc_law_is_of pm_law_is_of an_law_is_of cd_law_is_of ct_law_is_of), sl_law_is_of⟩)
    (c_law_is_of : PySem.W.codeIn K cd_law_is_of "_law_is_of" = true)
    (k_law_is_of : PySem.W.keepIn K (.ref f_law_is_of) = true)
    (a_Letter_eq : PySem.W.findIn K (.ref A_Letter) "__eq__" = some (some (.ref f_Letter_eq)))
    (i_Letter_eq : PySem.W.isFn K (.ref f_Letter_eq) = true)
    (l_Letter_eq : K.lookup f_Letter_eq = some ⟨oc_Letter_eq, od_Letter_eq, .func (PySem.W.fnOf "__eq__" "Letter.__eq__" (defArgs s_Letter_eq) (defBody s_Letter_eq) (defScope s_Letter_eq) .none kV_Letter_eq dc_Letter_eq pm_Letter_eq an_Letter_eq cd_Letter_eq ct_Letter_eq), sl_Letter_eq⟩)
    (c_Letter_eq : PySem.W.codeIn K cd_Letter_eq "Letter.__eq__" = true)
    (k_Letter_eq : PySem.W.keepIn K (.ref f_Letter_eq) = true)
    (a_Letter_init : PySem.W.findIn K (.ref A_Letter) "__init__" = some (some (.ref f_Letter_init)))
    (i_Letter_init : PySem.W.isFn K (.ref f_Letter_init) = true)
    (l_Letter_init : K.lookup f_Letter_init = some ⟨oc_Letter_init, od_Letter_init, .func (PySem.W.fnOf "__init__" "Letter.__init__" (defArgs s_Letter_init) (defBody s_Letter_init) (defScope s_Letter_init) .none (.ref KK_Letter_init) dc_Letter_init pm_Letter_init an_Letter_init cd_Letter_init ct_Letter_init), sl_Letter_init⟩)
    (c_Letter_init : PySem.W.codeIn K cd_Letter_init "Letter.__init__" = true)
    (k_Letter_init : PySem.W.keepIn K (.ref f_Letter_init) = true)
    (kd_Letter_init_parts : PySem.W.nsIn K KK_Letter_init "parts" = some (some (.ref KD_Letter_init_parts)))
    (ke_Letter_init_parts : K.lookup KD_Letter_init_parts = some ⟨.type "tuple", ked_Letter_init_parts, .seq #[] ken_Letter_init_parts, kes_Letter_init_parts⟩)
    (a_law_others : PySem.W.nsIn K mainGlobals "_law_others" = some (some (.ref f_law_others)))
    (l_law_others : K.lookup f_law_others = some ⟨oc_law_others, od_law_others, .func (PySem.W.fnOf "_law_others" "_law_others" (defArgs s_law_others) (defBody s_law_others) (defScope s_law_others) .none kV_law_others dc_law_others pm_law_others an_law_others cd_law_others ct_law_others), sl_law_others⟩)
    (c_law_others : PySem.W.codeIn K cd_law_others "_law_others" = true)
    (k_law_others : PySem.W.keepIn K (.ref f_law_others) = true)
    (a_law_take : PySem.W.nsIn K mainGlobals "_law_take" = some (some (.ref f_law_take)))
    (l_law_take : K.lookup f_law_take = some ⟨oc_law_take, od_law_take, .func (PySem.W.fnOf "_law_take" "_law_take" (defArgs s_law_take) (defBody s_law_take) (defScope s_law_take) .none kV_law_take dc_law_take pm_law_take an_law_take cd_law_take ct_law_take), sl_law_take⟩)
    (c_law_take : PySem.W.codeIn K cd_law_take "_law_take" = true)
    (k_law_take : PySem.W.keepIn K (.ref f_law_take) = true)
    (a_law_letter : PySem.W.nsIn K mainGlobals "_law_letter" = some (some (.ref f_law_letter)))
    (l_law_letter : K.lookup f_law_letter = some ⟨oc_law_letter, od_law_letter, .func (PySem.W.fnOf "_law_letter" "_law_letter" (defArgs s_law_letter) (defBody s_law_letter) (defScope s_law_letter) .none kV_law_letter dc_law_letter pm_law_letter an_law_letter cd_law_letter ct_law_letter), sl_law_letter⟩)
    (c_law_letter : PySem.W.codeIn K cd_law_letter "_law_letter" = true)
    (k_law_letter : PySem.W.keepIn K (.ref f_law_letter) = true)
    (a_law_alike : PySem.W.nsIn K mainGlobals "_law_alike" = some (some (.ref f_law_alike)))
    (l_law_alike : K.lookup f_law_alike = some ⟨oc_law_alike, od_law_alike, .func (PySem.W.fnOf "_law_alike" "_law_alike" (defArgs s_law_alike) (defBody s_law_alike) (defScope s_law_alike) .none kV_law_alike dc_law_alike pm_law_alike an_law_alike cd_law_alike ct_law_alike), sl_law_alike⟩)
    (c_law_alike : PySem.W.codeIn K cd_law_alike "_law_alike" = true)
    (k_law_alike : PySem.W.keepIn K (.ref f_law_alike) = true)
    (a_law_names : PySem.W.nsIn K mainGlobals "_law_names" = some (some (.ref f_law_names)))
    (l_law_names : K.lookup f_law_names = some ⟨oc_law_names, od_law_names, .func (PySem.W.fnOf "_law_names" "_law_names" (defArgs s_law_names) (defBody s_law_names) (defScope s_law_names) .none kV_law_names dc_law_names pm_law_names an_law_names cd_law_names ct_law_names), sl_law_names⟩)
    (c_law_names : PySem.W.codeIn K cd_law_names "_law_names" = true)
    (k_law_names : PySem.W.keepIn K (.ref f_law_names) = true)
    (a_law_fields : PySem.W.nsIn K mainGlobals "_law_fields" = some (some (.ref f_law_fields)))
    (l_law_fields : K.lookup f_law_fields = some ⟨oc_law_fields, od_law_fields, .func (PySem.W.fnOf "_law_fields" "_law_fields" (defArgs s_law_fields) (defBody s_law_fields) (defScope s_law_fields) .none kV_law_fields dc_law_fields pm_law_fields an_law_fields cd_law_fields ct_law_fields), sl_law_fields⟩)
    (c_law_fields : PySem.W.codeIn K cd_law_fields "_law_fields" = true)
    (k_law_fields : PySem.W.keepIn K (.ref f_law_fields) = true)
    (a_law_bag : PySem.W.nsIn K mainGlobals "_law_bag" = some (some (.ref f_law_bag)))
    (l_law_bag : K.lookup f_law_bag = some ⟨oc_law_bag, od_law_bag, .func (PySem.W.fnOf "_law_bag" "_law_bag" (defArgs s_law_bag) (defBody s_law_bag) (defScope s_law_bag) .none kV_law_bag dc_law_bag pm_law_bag an_law_bag cd_law_bag ct_law_bag), sl_law_bag⟩)
    (c_law_bag : PySem.W.codeIn K cd_law_bag "_law_bag" = true)
    (k_law_bag : PySem.W.keepIn K (.ref f_law_bag) = true)
    (a_law : PySem.W.nsIn K mainGlobals "law" = some (some (.ref f_law)))
    (l_law : K.lookup f_law = some ⟨oc_law, od_law, .func (PySem.W.fnOf "law" "law" (defArgs s_law) (defBody s_law) (defScope s_law) .none kV_law dc_law pm_law an_law cd_law ct_law), sl_law⟩)
    (c_law : PySem.W.codeIn K cd_law "law" = true)
    (k_law : PySem.W.keepIn K (.ref f_law) = true)
    (z_abs : PySem.W.nsIn K mainGlobals "abs" = some none)
    (z_all : PySem.W.nsIn K mainGlobals "all" = some none)
    (z_int : PySem.W.nsIn K mainGlobals "int" = some none)
    (z_isinstance : PySem.W.nsIn K mainGlobals "isinstance" = some none)
    (z_len : PySem.W.nsIn K mainGlobals "len" = some none)
    (z_max : PySem.W.nsIn K mainGlobals "max" = some none)
    (z_min : PySem.W.nsIn K mainGlobals "min" = some none)
    (z_range : PySem.W.nsIn K mainGlobals "range" = some none)
    (z_repr : PySem.W.nsIn K mainGlobals "repr" = some none)
    (z_sorted : PySem.W.nsIn K mainGlobals "sorted" = some none)
    (z_str : PySem.W.nsIn K mainGlobals "str" = some none)
    (z_tuple : PySem.W.nsIn K mainGlobals "tuple" = some none)
    (z_zip : PySem.W.nsIn K mainGlobals "zip" = some none)
    : ∃ fd : FuncData, (∀ (s : Shared) (v : Value), BindsTo s fd ⟨[v], []⟩ [("_law_script", v)]) ∧ ∀ base : Heap, K.In base → base.Ns mainGlobals mg → FnOkG l.prog w K mg base CX0 8 fa fd ["_law_script"] (Dn.spLaw K) := by
  have e := hfa.symm.trans (PySem.W.mg_of X Gh a_law)
  cases e
  have cl_Letter : Cls K A_Letter := ⟨pg_Letter, hd_Letter, po_Letter, sa_Letter⟩
  have cd_Letter : ClsD K "Letter" ["number", "sender", "goal", "word", "parts"] := ⟨A_Letter, aC_Letter, cl_Letter, fun f hf => by
    simp only [List.mem_cons, List.not_mem_nil, or_false] at hf
    rcases hf with rfl | rfl | rfl | rfl | rfl
    · exact nf_Letter_number
    · exact nf_Letter_sender
    · exact nf_Letter_goal
    · exact nf_Letter_word
    · exact nf_Letter_parts⟩
  have is_Letter : IsC K mg "Letter" := ⟨A_Letter, aC_Letter, PySem.W.mg_of X Gh aC_Letter, cl_Letter, ic1_Letter, ic2_Letter, ic3_Letter, ic4_Letter, fun n hn => by
    simp only [List.mem_cons, List.not_mem_nil, or_false] at hn
    rcases hn with rfl | rfl | rfl | rfl | rfl | rfl | rfl
    · exact ik_Letter_NoneType
    · exact ik_Letter_bool
    · exact ik_Letter_int
    · exact ik_Letter_str
    · exact ik_Letter_list
    · exact ik_Letter_tuple
    · exact ik_Letter_dict⟩
  have ne_Letter : NeD K "Letter" := ⟨A_Letter, aC_Letter, ne1_Letter, ne2_Letter⟩
  have ot_Letter : OtD K "Letter" := ⟨A_Letter, aC_Letter, fun t ht => by
    simp only [eqTys, List.mem_cons, List.not_mem_nil, or_false] at ht
    rcases ht with rfl | rfl | rfl | rfl | rfl
    · exact ⟨ot1_Letter_NoneType, ot2_Letter_NoneType⟩
    · exact ⟨ot1_Letter_int, ot2_Letter_int⟩
    · exact ⟨ot1_Letter_str, ot2_Letter_str⟩
    · exact ⟨ot1_Letter_list, ot2_Letter_list⟩
    · exact ⟨ot1_Letter_tuple, ot2_Letter_tuple⟩⟩
  have T : G K mg := ⟨PySem.W.mg_none_of X Gh z_abs, PySem.W.mg_none_of X Gh z_all, PySem.W.mg_none_of X Gh z_int, PySem.W.mg_none_of X Gh z_isinstance, PySem.W.mg_none_of X Gh z_len, PySem.W.mg_none_of X Gh z_max, PySem.W.mg_none_of X Gh z_min, PySem.W.mg_none_of X Gh z_range, PySem.W.mg_none_of X Gh z_repr, PySem.W.mg_none_of X Gh z_sorted, PySem.W.mg_none_of X Gh z_str, PySem.W.mg_none_of X Gh z_tuple, PySem.W.mg_none_of X Gh z_zip, cd_Letter, is_Letter, ne_Letter, ot_Letter⟩
  refine ⟨PySem.W.fnOf "law" "law" (defArgs s_law) (defBody s_law) (defScope s_law) .none kV_law dc_law pm_law an_law cd_law ct_law, fun s v => .of_eq rfl, fun base _ _ => ?_⟩
  have F_Letter_str := fun_mk (st := s_Letter_str) l_Letter_str c_Letter_str k_Letter_str
  have O_Letter_str := ok_Letter_str (base := base) (P := l.prog) (w := w) T F_Letter_str
  have B_Letter_str := F_Letter_str.binds (ps := ["self"]) fun _ _ _ _ _ _ us hl => match us, hl with | [_], _ => rfl
  have C_sp_Letter_str : SpD l.prog w K mg base 1 "Letter" "__str__" 1 Law.f_Letter_str := ⟨A_Letter, f_Letter_str, _, _, aC_Letter, a_Letter_str, i_Letter_str, O_Letter_str, B_Letter_str⟩
  have F_Letter_repr := fun_mk (st := s_Letter_repr) l_Letter_repr c_Letter_repr k_Letter_repr
  have O_Letter_repr := ok_Letter_repr (base := base) (P := l.prog) (w := w) T F_Letter_repr
  have B_Letter_repr := F_Letter_repr.binds (ps := ["self"]) fun _ _ _ _ _ _ us hl => match us, hl with | [_], _ => rfl
  have C_sp_Letter_repr : SpD l.prog w K mg base 1 "Letter" "__repr__" 1 Law.f_Letter_repr := ⟨A_Letter, f_Letter_repr, _, _, aC_Letter, a_Letter_repr, i_Letter_repr, O_Letter_repr, B_Letter_repr⟩
  have F_law_is_of := fun_mk (st := s_law_is_of) l_law_is_of c_law_is_of k_law_is_of
  have O_law_is_of := ok_law_is_of (base := base) (P := l.prog) (w := w) T C_sp_Letter_str C_sp_Letter_repr F_law_is_of
  have B_law_is_of := F_law_is_of.binds (ps := ["_law_letter_here", "_law_fields_here"]) fun _ _ _ _ _ _ us hl => match us, hl with | [_, _], _ => rfl
  have C_law_is_of : FnDG l.prog w K mg base 4 "_law_is_of" 2 Law.f_law_is_of := ⟨f_law_is_of, _, _, O_law_is_of, PySem.W.mg_of X Gh a_law_is_of, k_law_is_of, B_law_is_of⟩
  have F_Letter_eq := fun_mk (st := s_Letter_eq) l_Letter_eq c_Letter_eq k_Letter_eq
  have O_Letter_eq := ok_Letter_eq (base := base) (P := l.prog) (w := w) T F_Letter_eq
  have B_Letter_eq := F_Letter_eq.binds (ps := ["self", "other"]) fun _ _ _ _ _ _ us hl => match us, hl with | [_, _], _ => rfl
  have C_sp_Letter_eq : SpD l.prog w K mg base 1 "Letter" "__eq__" 2 Law.f_Letter_eq := ⟨A_Letter, f_Letter_eq, _, _, aC_Letter, a_Letter_eq, i_Letter_eq, O_Letter_eq, B_Letter_eq⟩
  have F_Letter_init : FunD K "__init__" "Letter.__init__" (defArgs s_Letter_init) (defBody s_Letter_init) (defScope s_Letter_init) [] [("parts", .ref KD_Letter_init_parts)] f_Letter_init _ := ⟨⟨_, _, _, _, _, _, _, _, _, _, rfl, l_Letter_init, c_Letter_init, .inl ⟨rfl, rfl⟩, .inr ⟨KK_Letter_init, rfl, fun q hq => by
    simp only [List.mem_cons, List.not_mem_nil, or_false] at hq
    rcases hq with rfl
    · exact ⟨_, kd_Letter_init_parts, rfl⟩⟩⟩, k_Letter_init⟩
  have O_Letter_init := ok_Letter_init (base := base) (P := l.prog) (w := w) T F_Letter_init
  have C_mkp_Letter_1_sender_goal_word : MkP l.prog w K mg base 1 "Letter" 1 ["sender", "goal", "word"] [0, 1, 2, 3, 4, 5] [.tup []] Law.f_Letter_init := by
    obtain ⟨mv, r⟩ := kbP_of (ps := ["self", "number", "sender", "goal", "word", "parts"]) (n := 2) (ks := ["sender", "goal", "word"]) [0, 1, 2, 3, 4, 5] [("parts", .ref KD_Letter_init_parts)] F_Letter_init (by simp) (fun q hq => by simp at hq ⊢; try simp [hq]) fun _ _ _ _ _ _ us mv ws h1 h2 h3 => match us, mv, ws, h1, h2, h3 with | [_, _], [_], [_, _, _], _, _, _ => ⟨_, _, _, _, _, _, rfl, rfl, rfl⟩
    exact ⟨A_Letter, f_Letter_init, _, _, mv, _, aC_Letter, PySem.W.mg_of X Gh aC_Letter, ⟨mk_Letter, a_Letter_init, i_Letter_init, kc_Letter⟩, O_Letter_init, r, fun _ _ => .cons (.tup (.inr ⟨_, _, _, ke_Letter_init_parts, rfl, rfl, by decide, .nil⟩) .nil (.inl (.inl rfl))) (.nil)⟩
  have C_mkp_Letter_0_goal_number_word_parts_sender : MkP l.prog w K mg base 1 "Letter" 0 ["goal", "number", "word", "parts", "sender"] [0, 2, 5, 1, 3, 4] [] Law.f_Letter_init := by
    obtain ⟨mv, r⟩ := kbP_of (ps := ["self", "number", "sender", "goal", "word", "parts"]) (n := 1) (ks := ["goal", "number", "word", "parts", "sender"]) [0, 2, 5, 1, 3, 4] [] F_Letter_init (by simp) (fun q hq => by simp at hq ⊢; try simp [hq]) fun _ _ _ _ _ _ us mv ws h1 h2 h3 => match us, mv, ws, h1, h2, h3 with | [_], [], [_, _, _, _, _], _, _, _ => rfl
    exact ⟨A_Letter, f_Letter_init, _, _, mv, _, aC_Letter, PySem.W.mg_of X Gh aC_Letter, ⟨mk_Letter, a_Letter_init, i_Letter_init, kc_Letter⟩, O_Letter_init, r, fun _ _ => .nil⟩
  have C_mkp_Letter_1_sender_goal_word_parts : MkP l.prog w K mg base 1 "Letter" 1 ["sender", "goal", "word", "parts"] [0, 1, 2, 3, 4, 5] [] Law.f_Letter_init := by
    obtain ⟨mv, r⟩ := kbP_of (ps := ["self", "number", "sender", "goal", "word", "parts"]) (n := 2) (ks := ["sender", "goal", "word", "parts"]) [0, 1, 2, 3, 4, 5] [] F_Letter_init (by simp) (fun q hq => by simp at hq ⊢; try simp [hq]) fun _ _ _ _ _ _ us mv ws h1 h2 h3 => match us, mv, ws, h1, h2, h3 with | [_, _], [], [_, _, _, _], _, _, _ => rfl
    exact ⟨A_Letter, f_Letter_init, _, _, mv, _, aC_Letter, PySem.W.mg_of X Gh aC_Letter, ⟨mk_Letter, a_Letter_init, i_Letter_init, kc_Letter⟩, O_Letter_init, r, fun _ _ => .nil⟩
  have C_mkp_Letter_0_number_parts_word_goal_sender : MkP l.prog w K mg base 1 "Letter" 0 ["number", "parts", "word", "goal", "sender"] [0, 1, 5, 4, 3, 2] [] Law.f_Letter_init := by
    obtain ⟨mv, r⟩ := kbP_of (ps := ["self", "number", "sender", "goal", "word", "parts"]) (n := 1) (ks := ["number", "parts", "word", "goal", "sender"]) [0, 1, 5, 4, 3, 2] [] F_Letter_init (by simp) (fun q hq => by simp at hq ⊢; try simp [hq]) fun _ _ _ _ _ _ us mv ws h1 h2 h3 => match us, mv, ws, h1, h2, h3 with | [_], [], [_, _, _, _, _], _, _, _ => rfl
    exact ⟨A_Letter, f_Letter_init, _, _, mv, _, aC_Letter, PySem.W.mg_of X Gh aC_Letter, ⟨mk_Letter, a_Letter_init, i_Letter_init, kc_Letter⟩, O_Letter_init, r, fun _ _ => .nil⟩
  have C_mkp_Letter_1_word_sender_parts_goal : MkP l.prog w K mg base 1 "Letter" 1 ["word", "sender", "parts", "goal"] [0, 1, 3, 5, 2, 4] [] Law.f_Letter_init := by
    obtain ⟨mv, r⟩ := kbP_of (ps := ["self", "number", "sender", "goal", "word", "parts"]) (n := 2) (ks := ["word", "sender", "parts", "goal"]) [0, 1, 3, 5, 2, 4] [] F_Letter_init (by simp) (fun q hq => by simp at hq ⊢; try simp [hq]) fun _ _ _ _ _ _ us mv ws h1 h2 h3 => match us, mv, ws, h1, h2, h3 with | [_, _], [], [_, _, _, _], _, _, _ => rfl
    exact ⟨A_Letter, f_Letter_init, _, _, mv, _, aC_Letter, PySem.W.mg_of X Gh aC_Letter, ⟨mk_Letter, a_Letter_init, i_Letter_init, kc_Letter⟩, O_Letter_init, r, fun _ _ => .nil⟩
  have F_law_others := fun_mk (st := s_law_others) l_law_others c_law_others k_law_others
  have O_law_others := ok_law_others (base := base) (P := l.prog) (w := w) T F_law_others
  have B_law_others := F_law_others.binds (ps := ["_law_fields_here"]) fun _ _ _ _ _ _ us hl => match us, hl with | [_], _ => rfl
  have C_law_others : FnD l.prog w K mg base 1 "_law_others" 1 Law.f_law_others := ⟨f_law_others, _, _, O_law_others, PySem.W.mg_of X Gh a_law_others, k_law_others, B_law_others⟩
  have F_law_take := fun_mk (st := s_law_take) l_law_take c_law_take k_law_take
  have O_law_take := ok_law_take (base := base) (P := l.prog) (w := w) T F_law_take
  have B_law_take := F_law_take.binds (ps := ["_law_bag_here", "_law_often"]) fun _ _ _ _ _ _ us hl => match us, hl with | [_, _], _ => rfl
  have C_law_take : FnD l.prog w K mg base 1 "_law_take" 2 Law.f_law_take := ⟨f_law_take, _, _, O_law_take, PySem.W.mg_of X Gh a_law_take, k_law_take, B_law_take⟩
  have F_law_letter := fun_mk (st := s_law_letter) l_law_letter c_law_letter k_law_letter
  have O_law_letter := ok_law_letter (base := base) (P := l.prog) (w := w) T C_mkp_Letter_0_goal_number_word_parts_sender C_mkp_Letter_1_word_sender_parts_goal C_mkp_Letter_0_number_parts_word_goal_sender C_mkp_Letter_1_sender_goal_word_parts F_law_letter
  have B_law_letter := F_law_letter.binds (ps := ["_law_fields_here", "_law_way"]) fun _ _ _ _ _ _ us hl => match us, hl with | [_, _], _ => rfl
  have C_law_letter : FnD l.prog w K mg base 3 "_law_letter" 2 Law.f_law_letter := ⟨f_law_letter, _, _, O_law_letter, PySem.W.mg_of X Gh a_law_letter, k_law_letter, B_law_letter⟩
  have F_law_alike := fun_mk (st := s_law_alike) l_law_alike c_law_alike k_law_alike
  have O_law_alike := ok_law_alike (base := base) (P := l.prog) (w := w) T C_sp_Letter_eq C_law_others C_law_take C_law_letter C_sp_Letter_repr C_sp_Letter_str F_law_alike
  have B_law_alike := F_law_alike.binds (ps := ["_law_letter_here", "_law_fields_here", "_law_bag_here"]) fun _ _ _ _ _ _ us hl => match us, hl with | [_, _, _], _ => rfl
  have C_law_alike : FnD l.prog w K mg base 6 "_law_alike" 3 Law.f_law_alike := ⟨f_law_alike, _, _, O_law_alike, PySem.W.mg_of X Gh a_law_alike, k_law_alike, B_law_alike⟩
  have F_law_names := fun_mk (st := s_law_names) l_law_names c_law_names k_law_names
  have O_law_names := ok_law_names (base := base) (P := l.prog) (w := w) T C_law_take F_law_names
  have B_law_names := F_law_names.binds (ps := ["_law_bag_here", "_law_often"]) fun _ _ _ _ _ _ us hl => match us, hl with | [_, _], _ => rfl
  have C_law_names : FnD l.prog w K mg base 2 "_law_names" 2 Law.f_law_names := ⟨f_law_names, _, _, O_law_names, PySem.W.mg_of X Gh a_law_names, k_law_names, B_law_names⟩
  have F_law_fields := fun_mk (st := s_law_fields) l_law_fields c_law_fields k_law_fields
  have O_law_fields := ok_law_fields (base := base) (P := l.prog) (w := w) T C_law_take C_law_names F_law_fields
  have B_law_fields := F_law_fields.binds (ps := ["_law_bag_here"]) fun _ _ _ _ _ _ us hl => match us, hl with | [_], _ => rfl
  have C_law_fields : FnD l.prog w K mg base 3 "_law_fields" 1 Law.f_law_fields := ⟨f_law_fields, _, _, O_law_fields, PySem.W.mg_of X Gh a_law_fields, k_law_fields, B_law_fields⟩
  have F_law_bag := fun_mk (st := s_law_bag) l_law_bag c_law_bag k_law_bag
  have O_law_bag := ok_law_bag (base := base) (P := l.prog) (w := w) T F_law_bag
  have B_law_bag := F_law_bag.binds (ps := ["_law_script", "_law_at"]) fun _ _ _ _ _ _ us hl => match us, hl with | [_, _], _ => rfl
  have C_law_bag : FnD l.prog w K mg base 1 "_law_bag" 2 Law.f_law_bag := ⟨f_law_bag, _, _, O_law_bag, PySem.W.mg_of X Gh a_law_bag, k_law_bag, B_law_bag⟩
  have F_law := fun_mk (st := s_law) l_law c_law k_law
  exact FnOkG.imp (ok_law T C_law_is_of C_sp_Letter_eq C_mkp_Letter_1_sender_goal_word C_law_alike C_law_take C_law_letter C_law_fields C_law_bag F_law) (Dn.law_sp plain_law)
end Law
open PySem PySem.W PyProof.Rows in
set_option maxRecDepth 100000 in
set_option maxHeartbeats 0 in
theorem PySem.Challenge.cw_crowdpurse_k21_letters_holds : PySem.Challenge.rw_crowdpurse_k21_letters.Holds := by
  w_on; o_law; k_head; (case hw => w_witness2)
  k_fill
  refine Dn.law_walkG (l := PySem.Challenge.rw_crowdpurse_k21_letters) (k := 8) (x := "_law_script") rfl rfl ⟨rfl, by decide, by decide⟩ (fun w h Y => PySem.W.kIn_of Y) ?F
  case F =>
    intro w mg fa h KX Gh hmg
    refine' Law.all_mk KX Gh hmg ?aC_Letter ?pg_Letter ?hd_Letter ?po_Letter ?sa_Letter ?mk_Letter ?kc_Letter ?ic1_Letter ?ic2_Letter ?ic3_Letter ?ic4_Letter ?ik_Letter_NoneType ?ik_Letter_bool ?ik_Letter_int ?ik_Letter_str ?ik_Letter_list ?ik_Letter_tuple ?ik_Letter_dict ?ne1_Letter ?ne2_Letter ?ot1_Letter_NoneType ?ot2_Letter_NoneType ?ot1_Letter_int ?ot2_Letter_int ?ot1_Letter_str ?ot2_Letter_str ?ot1_Letter_list ?ot2_Letter_list ?ot1_Letter_tuple ?ot2_Letter_tuple ?nf_Letter_number ?nf_Letter_sender ?nf_Letter_goal ?nf_Letter_word ?nf_Letter_parts ?a_Letter_str ?i_Letter_str ?l_Letter_str ?c_Letter_str ?k_Letter_str ?a_Letter_repr ?i_Letter_repr ?l_Letter_repr ?c_Letter_repr ?k_Letter_repr ?a_law_is_of ?l_law_is_of ?c_law_is_of ?k_law_is_of ?a_Letter_eq ?i_Letter_eq ?l_Letter_eq ?c_Letter_eq ?k_Letter_eq ?a_Letter_init ?i_Letter_init ?l_Letter_init ?c_Letter_init ?k_Letter_init ?kd_Letter_init_parts ?ke_Letter_init_parts ?a_law_others ?l_law_others ?c_law_others ?k_law_others ?a_law_take ?l_law_take ?c_law_take ?k_law_take ?a_law_letter ?l_law_letter ?c_law_letter ?k_law_letter ?a_law_alike ?l_law_alike ?c_law_alike ?k_law_alike ?a_law_names ?l_law_names ?c_law_names ?k_law_names ?a_law_fields ?l_law_fields ?c_law_fields ?k_law_fields ?a_law_bag ?l_law_bag ?c_law_bag ?k_law_bag ?a_law ?l_law ?c_law ?k_law ?z_abs ?z_all ?z_int ?z_isinstance ?z_len ?z_max ?z_min ?z_range ?z_repr ?z_sorted ?z_str ?z_tuple ?z_zip
    (case aC_Letter => k_is)
    (case pg_Letter => k_is)
    (case hd_Letter => k_is)
    (case po_Letter => k_is)
    (case sa_Letter => k_is)
    (case mk_Letter => k_is)
    (case kc_Letter => k_is)
    (case ic1_Letter => k_is)
    (case ic2_Letter => k_is)
    (case ic3_Letter => k_is)
    (case ic4_Letter => k_is)
    (case ik_Letter_NoneType => kit_is)
    (case ik_Letter_bool => kit_is)
    (case ik_Letter_int => kit_is)
    (case ik_Letter_str => kit_is)
    (case ik_Letter_list => kit_is)
    (case ik_Letter_tuple => kit_is)
    (case ik_Letter_dict => kit_is)
    (case ne1_Letter => k_is)
    (case ne2_Letter => k_is)
    (case ot1_Letter_NoneType => k_is)
    (case ot2_Letter_NoneType => k_is)
    (case ot1_Letter_int => k_is)
    (case ot2_Letter_int => k_is)
    (case ot1_Letter_str => k_is)
    (case ot2_Letter_str => k_is)
    (case ot1_Letter_list => k_is)
    (case ot2_Letter_list => k_is)
    (case ot1_Letter_tuple => k_is)
    (case ot2_Letter_tuple => k_is)
    (case nf_Letter_number => k_is)
    (case nf_Letter_sender => k_is)
    (case nf_Letter_goal => k_is)
    (case nf_Letter_word => k_is)
    (case nf_Letter_parts => k_is)
    (case a_Letter_str => k_is)
    (case i_Letter_str => k_is)
    (case l_Letter_str => k_is)
    (case c_Letter_str => k_is)
    (case k_Letter_str => k_is)
    (case a_Letter_repr => k_is)
    (case i_Letter_repr => k_is)
    (case l_Letter_repr => k_is)
    (case c_Letter_repr => k_is)
    (case k_Letter_repr => k_is)
    (case a_law_is_of => k_is)
    (case l_law_is_of => k_is)
    (case c_law_is_of => k_is)
    (case k_law_is_of => k_is)
    (case a_Letter_eq => k_is)
    (case i_Letter_eq => k_is)
    (case l_Letter_eq => k_is)
    (case c_Letter_eq => k_is)
    (case k_Letter_eq => k_is)
    (case a_Letter_init => k_is)
    (case i_Letter_init => k_is)
    (case l_Letter_init => k_is)
    (case c_Letter_init => k_is)
    (case k_Letter_init => k_is)
    (case kd_Letter_init_parts => k_is)
    (case ke_Letter_init_parts => k_is)
    (case a_law_others => k_is)
    (case l_law_others => k_is)
    (case c_law_others => k_is)
    (case k_law_others => k_is)
    (case a_law_take => k_is)
    (case l_law_take => k_is)
    (case c_law_take => k_is)
    (case k_law_take => k_is)
    (case a_law_letter => k_is)
    (case l_law_letter => k_is)
    (case c_law_letter => k_is)
    (case k_law_letter => k_is)
    (case a_law_alike => k_is)
    (case l_law_alike => k_is)
    (case c_law_alike => k_is)
    (case k_law_alike => k_is)
    (case a_law_names => k_is)
    (case l_law_names => k_is)
    (case c_law_names => k_is)
    (case k_law_names => k_is)
    (case a_law_fields => k_is)
    (case l_law_fields => k_is)
    (case c_law_fields => k_is)
    (case k_law_fields => k_is)
    (case a_law_bag => k_is)
    (case l_law_bag => k_is)
    (case c_law_bag => k_is)
    (case k_law_bag => k_is)
    (case a_law => k_is)
    (case l_law => k_is)
    (case c_law => k_is)
    (case k_law => k_is)
    (case z_abs => k_is)
    (case z_all => k_is)
    (case z_int => k_is)
    (case z_isinstance => k_is)
    (case z_len => k_is)
    (case z_max => k_is)
    (case z_min => k_is)
    (case z_range => k_is)
    (case z_repr => k_is)
    (case z_sorted => k_is)
    (case z_str => k_is)
    (case z_tuple => k_is)
    (case z_zip => k_is)
#print axioms PySem.Challenge.cw_crowdpurse_k21_letters_holds
