import PyProof.Rows.All
import PySem.Challenge.RW_onlyfilling_k04_fewest_points
import Wide.All
import OpenK.AllK
import Wide.FinOn
import HandS.ForMost
import HandS.ForExc
import HandS.Defaults
import HandS.Head2
import HandS.HeadHook2
import HandS.HeadEnd
import HandS.IsInst
import HandS.Zip
import HandS.Deep
import HandS.Walk
import HandS.Rev
import HandS.RevRange
import HandS.SortKw
import HandS.SortInts
import HandS.TupAny
import HandS.TupMul
import HandS.DictComp
import HandS.DictTup
import HandS.CallSlots
import HandS.HeadNt
import HandS.Property
import KE.SortData
import KE.KTupSum
import KE.OsSortAny
import KE.GoesEnum
import HandS.TryOnly
import KE.KExcSuper
import HandS.ExcInit
import HandS.TryMany
import HandS.ExcField
import KE.KOpsOwn
section
set_option Elab.async false
set_option linter.all false
set_option maxRecDepth 100000
/-! The deep layer, part 1: data, worlds, what holds of a heap. -/
namespace Dp
open PySem PySem.Spec PyProof.Rows L2

/-- deep data: ref i is the i-th shared cell, gl x what the module's name x holds -/
inductive D where
  | non | bl (b : Bool) | int (i : Int) | str (x : Str)
  | tup (ds : List D) | lst (ds : List D) | seq (ds : List D)
  | dk (ks : List Key) (ds : List D) | dt (ks : List (List Key)) (ds : List D)
  | ins (c : Str) (ns : List Str) (ds : List D)
  | ref (i : Nat) | gl (x : Str) | cl (c : Str)
deriving Inhabited
/-- a container that may still be changed -/
inductive Cell where
  | lst (ds : List D)
  | dk (ks : List Key) (ds : List D) | dt (ks : List (List Key)) (ds : List D)
  | ins (c : Str) (ns : List Str) (ds : List D)
deriving Inhabited
def Cell.fz : Cell → D
  | .lst ds => .lst ds
  | .dk ks ds => .dk ks ds
  | .dt ks ds => .dt ks ds
  | .ins c ns ds => .ins c ns ds
/-- what a slot, an expression holds: a value, or a container of its own -/
inductive SV where
  | val (d : D) | own (c : Cell)
deriving Inhabited
def SV.fz : SV → D
  | .val d => d
  | .own c => c.fz
abbrev Sl := List (Option SV)
abbrev Mu := List Cell
/-- an exception: its class, the fields of its dict -/
structure Exn where
  c : Str
  ns : List Str
  ds : List D
inductive R (α : Type) where
  | ok (a : α) (m : Mu)
  | ex (x : Exn) (m : Mu)
  | bad
def R.bind {α β : Type} (r : R α) (f : α → Mu → R β) : R β := match r with
  | .ok a m => f a m
  | .ex x m => .ex x m
  | .bad => .bad
/-- where no exception may leave -/
def R.bindN {α β : Type} (r : R α) (f : α → Mu → R β) : R β := match r with
  | .ok a m => f a m
  | _ => .bad
@[simp] theorem R.bindN_ok {α β : Type} (a : α) (m : Mu) (f : α → Mu → R β) : (R.ok a m).bindN f = f a m := rfl
@[simp] theorem R.bind_ok {α β : Type} (a : α) (m : Mu) (f : α → Mu → R β) : (R.ok a m).bind f = f a m := rfl
@[simp] theorem R.bind_ex {α β : Type} (x : Exn) (m : Mu) (f : α → Mu → R β) : (R.ex x m : R α).bind f = .ex x m := rfl
@[simp] theorem R.bind_bad {α β : Type} (f : α → Mu → R β) : (R.bad : R α).bind f = .bad := rfl

/-! ### worlds: the part of the heap that never changes again, the shared cells' addresses -/
structure Wd where
  Hf : Hp
  th : List Addr
structure Le (W W' : Wd) : Prop where
  sub : Same W.Hf W'.Hf
  th : ∃ more, W'.th = W.th ++ more
theorem Le.refl (W : Wd) : Le W W := ⟨Same.refl _, [], by simp⟩
theorem Le.trans {W W1 W2 : Wd} (a : Le W W1) (b : Le W1 W2) : Le W W2 := by
  obtain ⟨m1, e1⟩ := a.th
  obtain ⟨m2, e2⟩ := b.th
  exact ⟨a.sub.trans b.sub, m1 ++ m2, by rw [e2, e1, List.append_assoc]⟩
theorem Le.at {W W' : Wd} (l : Le W W') {i : Nat} {a : Addr} (h : W.th[i]? = some a) : W'.th[i]? = some a := by
  obtain ⟨m, e⟩ := l.th
  have hi := (List.getElem?_eq_some_iff.mp h).1
  rw [e, List.getElem?_append_left hi]
  exact h
theorem sqT_same {K : PySem.W.Frag} {H H' : Hp} {a : Addr} {xs : List V} (e : Same H H') (h : SqT K H a xs) : SqT K H' a xs := by
  rcases h with (h | ⟨o, h⟩) | h
  · exact .inl (.inl (e _ _ h))
  · exact .inl (.inr ⟨o, e _ _ h⟩)
  · exact .inr h
theorem rd_same {H H' : Hp} {a : Addr} {u : HO} (e : Same H H') (h : Rd H a u) : Rd H' a u := by
  rcases h with h | ⟨o, h⟩
  · exact .inl (e _ _ h)
  · exact .inr ⟨o, e _ _ h⟩
section
variable (K : PySem.W.Frag) (mg : Str → Option Value)
mutual
/-- the value v is the data d in the world W -/
def Rep (W : Wd) : D → V → Prop
  | .non, v => v = .non
  | .bl b, v => v = .bl b
  | .int i, v => v = .int i
  | .str x, v => v = .str x
  | .tup ds, v => ∃ a vs, v = .ref a ∧ W.Hf a = some (.tup vs) ∧ Reps W ds vs
  | .lst ds, v => ∃ a vs, v = .ref a ∧ W.Hf a = some (.lst vs) ∧ Reps W ds vs
  | .seq ds, v => ∃ a vs, v = .ref a ∧ SqL K W.Hf a vs ∧ Reps W ds vs
  | .dk ks ds, v => ∃ a vs, v = .ref a ∧ W.Hf a = some (.dK (ks.zip vs)) ∧ ks.length = ds.length ∧ Reps W ds vs
  | .dt ks ds, v => ∃ a vs, v = .ref a ∧ Rd W.Hf a (.dT (ks.zip vs)) ∧ ks.length = ds.length ∧ Reps W ds vs
  | .ins c ns ds, v => ∃ a dx vs, v = .ref a ∧ W.Hf a = some (.ins (He.ga K c) dx (ns.zip vs)) ∧ ns.length = ds.length ∧ Reps W ds vs
  | .ref i, v => ∃ a, v = .ref a ∧ W.th[i]? = some a
  | .gl x, v => ∃ a, v = .ref a ∧ SqT K (fun _ => none) a [] ∧ mg x = mg x
  | .cl c, v => v = .ref (He.ga K c)
def Reps (W : Wd) : List D → List V → Prop
  | [], vs => vs = []
  | d :: ds, vs => ∃ v r, vs = v :: r ∧ Rep W d v ∧ Reps W ds r
end
end
section
variable {K : PySem.W.Frag} {mg : Str → Option Value} {W W' : Wd}
mutual
theorem Rep.mono (l : Le W W') : ∀ (d : D) (v : V), Rep K mg W d v → Rep K mg W' d v
  | .non, _, h => h
  | .bl _, _, h => h
  | .int _, _, h => h
  | .str _, _, h => h
  | .tup ds, _, ⟨a, vs, e, h, r⟩ => ⟨a, vs, e, l.sub _ _ h, Reps.mono l ds vs r⟩
  | .lst ds, _, ⟨a, vs, e, h, r⟩ => ⟨a, vs, e, l.sub _ _ h, Reps.mono l ds vs r⟩
  | .seq ds, _, ⟨a, vs, e, h, r⟩ => ⟨a, vs, e, l.sub.seq h, Reps.mono l ds vs r⟩
  | .dk _ ds, _, ⟨a, vs, e, h, n, r⟩ => ⟨a, vs, e, l.sub _ _ h, n, Reps.mono l ds vs r⟩
  | .dt _ ds, _, ⟨a, vs, e, h, n, r⟩ => ⟨a, vs, e, rd_same l.sub h, n, Reps.mono l ds vs r⟩
  | .ins _ _ ds, _, ⟨a, dx, vs, e, h, n, r⟩ => ⟨a, dx, vs, e, l.sub _ _ h, n, Reps.mono l ds vs r⟩
  | .ref _, _, ⟨a, e, h⟩ => ⟨a, e, l.at h⟩
  | .gl _, _, h => h
  | .cl _, _, h => h
theorem Reps.mono (l : Le W W') : ∀ (ds : List D) (vs : List V), Reps K mg W ds vs → Reps K mg W' ds vs
  | [], _, h => h
  | d :: ds, _, ⟨v, r, e, h, t⟩ => ⟨v, r, e, Rep.mono l d v h, Reps.mono l ds r t⟩
end
theorem Reps.length : ∀ {ds : List D} {vs : List V}, Reps K mg W ds vs → ds.length = vs.length
  | [], _, h => by cases h; rfl
  | _ :: ds, _, ⟨v, r, e, _, t⟩ => by rw [e, List.length_cons, List.length_cons, Reps.length t]
theorem Reps.get : ∀ {ds : List D} {vs : List V} {i : Nat} {d : D}, Reps K mg W ds vs → ds[i]? = some d → ∃ v, vs[i]? = some v ∧ Rep K mg W d v
  | [], _, _, _, _, h => by simp at h
  | _ :: _, _, 0, _, ⟨v, r, e, h, _⟩, hd => by
    simp at hd
    subst hd e
    exact ⟨v, rfl, h⟩
  | _ :: ds, _, i + 1, _, ⟨v, r, e, _, t⟩, hd => by
    subst e
    obtain ⟨w, h1, h2⟩ := Reps.get (i := i) t (by simpa using hd)
    exact ⟨w, by simpa using h1, h2⟩
theorem Reps.getV : ∀ {ds : List D} {vs : List V} {i : Nat} {v : V}, Reps K mg W ds vs → vs[i]? = some v → ∃ d, ds[i]? = some d ∧ Rep K mg W d v
  | [], _, _, _, h, hv => by
    cases h
    simp at hv
  | d :: _, _, 0, _, ⟨v, r, e, h, _⟩, hv => by
    subst e
    simp at hv
    subst hv
    exact ⟨d, rfl, h⟩
  | _ :: ds, _, i + 1, _, ⟨v, r, e, _, t⟩, hv => by
    subst e
    obtain ⟨w, h1, h2⟩ := Reps.getV (i := i) t (by simpa using hv)
    exact ⟨w, by simpa using h1, h2⟩
theorem Reps.append : ∀ {ds es : List D} {vs us : List V}, Reps K mg W ds vs → Reps K mg W es us → Reps K mg W (ds ++ es) (vs ++ us)
  | [], _, _, _, h, k => by
    cases h
    exact k
  | d :: ds, _, _, _, ⟨v, r, e, h, t⟩, k => by
    subst e
    exact ⟨v, _, rfl, h, Reps.append t k⟩
theorem Reps.one {d : D} {v : V} (h : Rep K mg W d v) : Reps K mg W [d] [v] := ⟨v, [], rfl, h, rfl⟩
theorem Reps.cons {d : D} {v : V} {ds : List D} {vs : List V} (h : Rep K mg W d v) (t : Reps K mg W ds vs) : Reps K mg W (d :: ds) (v :: vs) := ⟨v, vs, rfl, h, t⟩
theorem Reps.take : ∀ {ds : List D} {vs : List V} (n : Nat), Reps K mg W ds vs → Reps K mg W (ds.take n) (vs.take n)
  | _, _, 0, _ => by
    rw [List.take_zero, List.take_zero]
    rfl
  | [], _, n + 1, h => by
    cases h
    rfl
  | _ :: ds, _, n + 1, ⟨v, r, e, h, t⟩ => by
    subst e
    exact ⟨v, _, rfl, h, Reps.take n t⟩
theorem Reps.drop : ∀ {ds : List D} {vs : List V} (n : Nat), Reps K mg W ds vs → Reps K mg W (ds.drop n) (vs.drop n)
  | _, _, 0, h => h
  | [], _, n + 1, h => by
    cases h
    rfl
  | _ :: ds, _, n + 1, ⟨v, r, e, h, t⟩ => by
    subst e
    exact Reps.drop n t
theorem Reps.reverse : ∀ {ds : List D} {vs : List V}, Reps K mg W ds vs → Reps K mg W ds.reverse vs.reverse
  | [], _, h => by
    cases h
    rfl
  | _ :: ds, _, ⟨v, r, e, h, t⟩ => by
    subst e
    rw [List.reverse_cons, List.reverse_cons]
    exact (Reps.reverse t).append (Reps.one h)
theorem Reps.set : ∀ {ds : List D} {vs : List V} (i : Nat) {d : D} {v : V}, Reps K mg W ds vs → Rep K mg W d v → Reps K mg W (ds.set i d) (vs.set i v)
  | [], _, _, _, _, h, _ => by
    cases h
    rfl
  | _ :: ds, _, 0, _, _, ⟨v, r, e, _, t⟩, k => by
    subst e
    exact ⟨_, _, rfl, k, t⟩
  | _ :: ds, _, i + 1, _, _, ⟨v, r, e, h, t⟩, k => by
    subst e
    exact ⟨_, _, rfl, h, Reps.set i t k⟩
theorem Reps.dropLast {ds : List D} {vs : List V} (h : Reps K mg W ds vs) : Reps K mg W ds.dropLast vs.dropLast := by
  rw [List.dropLast_eq_take, List.dropLast_eq_take, h.length]
  exact h.take _
theorem Reps.nil : Reps K mg W [] [] := rfl
end

/-! ### cells -/
section
variable (K : PySem.W.Frag) (mg : Str → Option Value)
/-- at a, in the heap G, the container c -/
def CellAt (W : Wd) (G : Hp) (a : Addr) : Cell → Prop
  | .lst ds => ∃ vs, G a = some (.lst vs) ∧ Reps K mg W ds vs
  | .dk ks ds => ∃ vs, G a = some (.dK (ks.zip vs)) ∧ ks.length = ds.length ∧ Reps K mg W ds vs
  | .dt ks ds => ∃ vs, G a = some (.dT (ks.zip vs)) ∧ ks.length = ds.length ∧ Reps K mg W ds vs
  | .ins c ns ds => ∃ dx vs, G a = some (.ins (He.ga K c) dx (ns.zip vs)) ∧ ns.length = ds.length ∧ Reps K mg W ds vs
end
section
variable {K : PySem.W.Frag} {mg : Str → Option Value} {W W' : Wd} {G G' : Hp} {a : Addr} {c : Cell}
theorem CellAt.mono (h : CellAt K mg W G a c) (l : Le W W') (k : ∀ o, G a = some o → G' a = some o) : CellAt K mg W' G' a c := by
  cases c with
  | lst ds => obtain ⟨vs, e, r⟩ := h; exact ⟨vs, k _ e, Reps.mono l _ _ r⟩
  | dk ks ds => obtain ⟨vs, e, n, r⟩ := h; exact ⟨vs, k _ e, n, Reps.mono l _ _ r⟩
  | dt ks ds => obtain ⟨vs, e, n, r⟩ := h; exact ⟨vs, k _ e, n, Reps.mono l _ _ r⟩
  | ins c ns ds => obtain ⟨dx, vs, e, n, r⟩ := h; exact ⟨dx, vs, k _ e, n, Reps.mono l _ _ r⟩
theorem CellAt.ex (h : CellAt K mg W G a c) : ∃ o, G a = some o := by
  cases c with
  | lst ds => obtain ⟨vs, e, r⟩ := h; exact ⟨_, e⟩
  | dk ks ds => obtain ⟨vs, e, n, r⟩ := h; exact ⟨_, e⟩
  | dt ks ds => obtain ⟨vs, e, n, r⟩ := h; exact ⟨_, e⟩
  | ins c ns ds => obtain ⟨dx, vs, e, n, r⟩ := h; exact ⟨_, e⟩
theorem CellAt.ntup (h : CellAt K mg W G a c) {o : HO} (e : G a = some o) : ∀ xs, o ≠ .tup xs := fun xs z => by
  subst z
  cases c with
  | lst ds => obtain ⟨vs, e2, r⟩ := h; rw [e] at e2; cases e2
  | dk ks ds => obtain ⟨vs, e2, n, r⟩ := h; rw [e] at e2; cases e2
  | dt ks ds => obtain ⟨vs, e2, n, r⟩ := h; rw [e] at e2; cases e2
  | ins c ns ds => obtain ⟨dx, vs, e2, n, r⟩ := h; rw [e] at e2; cases e2
theorem CellAt.rep (h : CellAt K mg W W.Hf a c) : Rep K mg W c.fz (.ref a) := by
  cases c with
  | lst ds => obtain ⟨vs, e, r⟩ := h; exact ⟨a, vs, rfl, e, r⟩
  | dk ks ds => obtain ⟨vs, e, n, r⟩ := h; exact ⟨a, vs, rfl, e, n, r⟩
  | dt ks ds => obtain ⟨vs, e, n, r⟩ := h; exact ⟨a, vs, rfl, .inl e, n, r⟩
  | ins c ns ds => obtain ⟨dx, vs, e, n, r⟩ := h; exact ⟨a, dx, vs, rfl, e, n, r⟩
end

/-! ### what holds of a heap -/
section
variable (K : PySem.W.Frag) (mg : Str → Option Value)
structure St0 (W : Wd) (m : Mu) (H : Hp) : Prop where
  sub : Same W.Hf H
  len : W.th.length = m.length
  cell : ∀ (i : Nat) (a : Addr) (c : Cell), W.th[i]? = some a → m[i]? = some c → CellAt K mg W H a c
  nf : ∀ a, a ∈ W.th → W.Hf a = none
  nd : W.th.Nodup
/-- a container of one's own at a -/
structure Own (W : Wd) (H : Hp) (a : Addr) (c : Cell) : Prop where
  at_ : CellAt K mg W H a c
  nf : W.Hf a = none
  nt : a ∉ W.th
structure Holds (W : Wd) (s : Sl) (m : Mu) (σ : L2.St) (H : Hp) : Prop extends St0 K mg W m H where
  slen : s.length = σ.length
  slot : ∀ (i : Nat) (d : D), s[i]? = some (some (.val d)) → ∃ v, σ[i]? = some (some v) ∧ Rep K mg W d v
  own : ∀ (i : Nat) (c : Cell), s[i]? = some (some (.own c)) → ∃ a, σ[i]? = some (some (.ref a)) ∧ Own K mg W H a c
  dis : ∀ (i j : Nat) (c c' : Cell) (a : Addr), s[i]? = some (some (.own c)) → s[j]? = some (some (.own c')) → σ[i]? = some (some (.ref a)) → σ[j]? = some (some (.ref a)) → i = j
end
/-- from (W, H) to (W', H'): nothing but the shared cells has changed -/
structure Step (W : Wd) (H : Hp) (W' : Wd) (H' : Hp) : Prop where
  sub : Same W.Hf W'.Hf
  th : ∃ more, W'.th = W.th ++ more ∧ ∀ a, a ∈ more → H a = none
  keep : ∀ b o, H b = some o → b ∉ W.th → H' b = some o
  nofz : ∀ b o, H b = some o → W.Hf b = none → b ∉ W.th → (∀ xs, o ≠ .tup xs) → W'.Hf b = none
section
variable {K : PySem.W.Frag} {mg : Str → Option Value} {W W1 W2 : Wd} {H H1 H2 : Hp} {m m1 m2 : Mu} {s : Sl} {σ : L2.St}
theorem Step.le (p : Step W H W1 H1) : Le W W1 := by
  obtain ⟨more, e, _⟩ := p.th
  exact ⟨p.sub, more, e⟩
theorem Step.refl (W : Wd) (H : Hp) : Step W H W H := ⟨Same.refl _, ⟨[], by simp, by simp⟩, fun _ _ h _ => h, fun _ _ _ h _ _ => h⟩
theorem St0.live (x : St0 K mg W m H) {a : Addr} (h : a ∈ W.th) : ∃ o, H a = some o := by
  obtain ⟨i, hi, e⟩ := List.getElem_of_mem h
  have hm : i < m.length := by rw [← x.len]; exact hi
  exact (x.cell i a m[i] (by rw [List.getElem?_eq_getElem hi, e]) (List.getElem?_eq_getElem hm)).ex
theorem Step.nth (p : Step W H W1 H1) {b : Addr} {o : HO} (h : H b = some o) (n : b ∉ W.th) : b ∉ W1.th := by
  obtain ⟨more, e, f⟩ := p.th
  rw [e, List.mem_append]
  rintro (q | q)
  · exact n q
  · rw [f b q] at h
    cases h
theorem Step.trans (x1 : St0 K mg W1 m1 H1) (p : Step W H W1 H1) (q : Step W1 H1 W2 H2) : Step W H W2 H2 := by
  obtain ⟨m1', e1, f1⟩ := p.th
  obtain ⟨m2', e2, f2⟩ := q.th
  refine ⟨p.sub.trans q.sub, ⟨m1' ++ m2', by rw [e2, e1, List.append_assoc], fun a ha => ?_⟩, fun b o h n => q.keep b o (p.keep b o h n) (p.nth h n), fun b o h z n t => q.nofz b o (p.keep b o h n) (p.nofz b o h z n t) (p.nth h n) t⟩
  rcases List.mem_append.mp ha with z | z
  · exact f1 a z
  · cases e : H a with
    | none => rfl
    | some o =>
      have z2 := f2 a z
      by_cases ht : a ∈ W.th
      · obtain ⟨o', e'⟩ := x1.live (a := a) (by rw [e1]; exact List.mem_append_left _ ht)
        rw [z2] at e'
        cases e'
      · rw [p.keep a o e ht] at z2
        cases z2
theorem Own.step {a : Addr} {c : Cell} (h : Own K mg W H a c) (p : Step W H W1 H1) : Own K mg W1 H1 a c := by
  obtain ⟨o, e⟩ := h.at_.ex
  exact ⟨h.at_.mono p.le fun o' e' => p.keep a o' e' h.nt, p.nofz a o e h.nf h.nt (h.at_.ntup e), p.nth e h.nt⟩
theorem Holds.step (h : Holds K mg W s m σ H) (p : Step W H W1 H1) (x : St0 K mg W1 m1 H1) : Holds K mg W1 s m1 σ H1 := by
  refine ⟨x, h.slen, fun i d e => ?_, fun i c e => ?_, h.dis⟩
  · obtain ⟨v, q, r⟩ := h.slot i d e
    exact ⟨v, q, Rep.mono p.le d v r⟩
  · obtain ⟨a, q, r⟩ := h.own i c e
    exact ⟨a, q, r.step p⟩
theorem Same.none {A B : Hp} (s : Same A B) {p : Addr} (h : B p = none) : A p = none := by
  cases e : A p with
  | none => rfl
  | some o => rw [s p o e] at h; cases h
theorem upd_sub {A B : Hp} (s : Same A B) (p : Addr) (o : HO) : Same (upd A p o) (upd B p o) := fun b u e => by
  by_cases h : b = p
  · subst h
    rw [upd_same] at e ⊢
    exact e
  · rw [upd_ne h] at e ⊢
    exact s b u e
theorem sub_upd {A B : Hp} (s : Same A B) {p : Addr} (n : A p = Option.none) (o : HO) : Same A (upd B p o) := fun b u e => by
  by_cases h : b = p
  · subst h
    rw [n] at e
    cases e
  · rw [upd_ne h]
    exact s b u e
theorem same_upd {A : Hp} {p : Addr} (n : A p = Option.none) (o : HO) : Same A (upd A p o) := sub_upd (Same.refl A) n o
/-- a new object that stays as it is -/
theorem St0.laid (x : St0 K mg W m H) {p : Addr} (hp : H p = none) (o : HO) : St0 K mg ⟨upd W.Hf p o, W.th⟩ m (upd H p o) ∧ Step W H ⟨upd W.Hf p o, W.th⟩ (upd H p o) := by
  have hn := Same.none x.sub hp
  have nt : p ∉ W.th := fun z => by
    obtain ⟨o', e⟩ := x.live z
    rw [hp] at e
    cases e
  refine ⟨⟨upd_sub x.sub p o, x.len, fun i a c e1 e2 => ?_, fun a ha => ?_, x.nd⟩, ⟨same_upd hn o, ⟨[], by simp, by simp⟩, fun b u e _ => ?_, fun b u e z _ _ => ?_⟩⟩
  · have ha : a ≠ p := fun z => nt (z ▸ List.mem_of_getElem? e1)
    exact (x.cell i a c e1 e2).mono ⟨same_upd hn o, [], by simp⟩ fun u e => by rw [upd_ne ha]; exact e
  · have ha' : a ≠ p := fun z => nt (z ▸ ha)
    show upd W.Hf p o a = none
    rw [upd_ne ha']
    exact x.nf a ha
  · rw [upd_ne (ne_of_none e hp)]
    exact e
  · show upd W.Hf p o b = none
    rw [upd_ne (ne_of_none e hp)]
    exact z
/-- a new object of one's own -/
theorem St0.made (x : St0 K mg W m H) {p : Addr} (hp : H p = none) (o : HO) : St0 K mg W m (upd H p o) ∧ Step W H W (upd H p o) ∧ W.Hf p = none ∧ p ∉ W.th := by
  have hn := Same.none x.sub hp
  have nt : p ∉ W.th := fun z => by
    obtain ⟨o', e⟩ := x.live z
    rw [hp] at e
    cases e
  refine ⟨⟨sub_upd x.sub hn o, x.len, fun i a c e1 e2 => ?_, x.nf, x.nd⟩, ⟨Same.refl _, ⟨[], by simp, by simp⟩, fun b u e _ => ?_, fun b u e z _ _ => z⟩, hn, nt⟩
  · have ha : a ≠ p := fun z => nt (z ▸ List.mem_of_getElem? e1)
    exact (x.cell i a c e1 e2).mono (Le.refl W) fun u e => by rw [upd_ne ha]; exact e
  · rw [upd_ne (ne_of_none e hp)]
    exact e
/-- what one owns is left as it is from now on -/
theorem St0.freeze (x : St0 K mg W m H) {p : Addr} {o : HO} (hp : H p = some o) (hn : W.Hf p = none) (nt : p ∉ W.th) : St0 K mg ⟨upd W.Hf p o, W.th⟩ m H ∧ Le W ⟨upd W.Hf p o, W.th⟩ := by
  have l : Le W ⟨upd W.Hf p o, W.th⟩ := ⟨same_upd hn o, [], by simp⟩
  refine ⟨⟨fun b u e => ?_, x.len, fun i a c e1 e2 => (x.cell i a c e1 e2).mono l fun _ e => e, fun a ha => ?_, x.nd⟩, l⟩
  · by_cases h : b = p
    · subst h
      have e' : upd W.Hf b o b = some u := e
      rw [upd_same] at e'
      rw [hp]
      exact e'
    · have e' : upd W.Hf p o b = some u := e
      rw [upd_ne h] at e'
      exact x.sub b u e'
  · have ha' : a ≠ p := fun z => nt (z ▸ ha)
    show upd W.Hf p o a = none
    rw [upd_ne ha']
    exact x.nf a ha
/-- what one owns is written -/
theorem St0.write (x : St0 K mg W m H) {p : Addr} (hn : W.Hf p = none) (nt : p ∉ W.th) (o : HO) : St0 K mg W m (upd H p o) := by
  refine ⟨sub_upd x.sub hn o, x.len, fun i a c e1 e2 => ?_, x.nf, x.nd⟩
  have ha : a ≠ p := fun z => nt (z ▸ List.mem_of_getElem? e1)
  exact (x.cell i a c e1 e2).mono (Le.refl W) fun u e => by rw [upd_ne ha]; exact e
end
end Dp
end

section
set_option Elab.async false
set_option linter.all false
set_option maxRecDepth 100000
/-! The deep layer, part 2: what a pure computation says of a piece of syntax. -/
namespace Dp
open PySem PySem.Spec PyProof.Rows L2

section
variable (K : PySem.W.Frag) (mg : Str → Option Value)
/-- an exception's dict -/
def ExAt (W : Wd) (x : Exn) (d : Option Addr) : Prop := (x.ns = [] ∧ x.ds = [] ∧ d = none) ∨ ∃ dd vs, d = some dd ∧ W.Hf dd = some (.xd (x.ns.zip vs)) ∧ x.ns.length = x.ds.length ∧ Reps K mg W x.ds vs
/-- an expression's value: H the heap ahead -/
def SvAt (W' : Wd) (H H' : Hp) : SV → V → Prop
  | .val d, v => Rep K mg W' d v
  | .own c, v => ∃ p, v = .ref p ∧ Own K mg W' H' p c ∧ H p = none
def LsAt (W' : Wd) (_ _ : Hp) (ds : List D) (vs : List V) : Prop := Reps K mg W' ds vs
def BlAt (_ : Wd) (_ _ : Hp) (b : Bool) (c : Bool) : Prop := b = c
/-- the heap ahead may be taken earlier -/
def Rb {α β : Type} (A : Wd → Hp → Hp → α → β → Prop) : Prop := ∀ (W : Wd) (H : Hp) (W1 : Wd) (H1 : Hp) (m1 : Mu) (W' : Wd) (H' : Hp) (a : α) (b : β), St0 K mg W1 m1 H1 → Step W H W1 H1 → Step W1 H1 W' H' → A W' H1 H' a b → A W' H H' a b
def OutG {α β : Type} (A : Wd → Hp → Hp → α → β → Prop) (Wx : WX) (W : Wd) (H : Hp) (σ : L2.St) (r : R α) (Q : β → Hp → Prop) : Prop := match r with
  | .ok a m' => ∀ (W' : Wd) (b : β) (H' : Hp), St0 K mg W' m' H' → Step W H W' H' → A W' H H' a b → Q b H'
  | .ex x m' => ∀ (W' : Wd) (d : Option Addr) (H' : Hp), St0 K mg W' m' H' → Step W H W' H' → ExAt K mg W' x d → Wx (.ref (He.ga K x.c)) d σ H'
  | .bad => False
/-- the reading of a computation -/
def tG {α β : Type} (A : Wd → Hp → Hp → α → β → Prop) (Wx : WX) (f : Sl → Mu → R α) : L2.St → Hp → (β → Hp → Prop) → Prop := fun σ H Q =>
  ∃ (W : Wd) (s : Sl) (m : Mu), Holds K mg W s m σ H ∧ OutG K mg A Wx W H σ (f s m) Q
end
section
variable {K : PySem.W.Frag} {mg : Str → Option Value}
theorem rb_sv : Rb K mg (SvAt K mg) := fun W H W1 H1 m1 W' H' a b x1 p q h => by
  cases a with
  | val d => exact h
  | own c =>
    obtain ⟨l, e, o, n⟩ := h
    refine ⟨l, e, o, ?_⟩
    cases z : H l with
    | none => rfl
    | some u =>
      by_cases ht : l ∈ W.th
      · obtain ⟨m1', e1, _⟩ := p.th
        obtain ⟨m2', e2, _⟩ := q.th
        exact absurd (by rw [e2, e1]; exact List.mem_append_left _ (List.mem_append_left _ ht)) o.nt
      · rw [p.keep l u z ht] at n
        cases n
theorem rb_ls : Rb K mg (LsAt K mg) := fun _ _ _ _ _ _ _ _ _ _ _ _ h => h
theorem rb_bl : Rb K mg (fun W H H' => BlAt W H H') := fun _ _ _ _ _ _ _ _ _ _ _ _ h => h
theorem ExAt.mono {W W' : Wd} {x : Exn} {d : Option Addr} (h : ExAt K mg W x d) (l : Le W W') : ExAt K mg W' x d := by
  rcases h with h | ⟨dd, vs, e, h, n, r⟩
  · exact .inl h
  · exact .inr ⟨dd, vs, e, l.sub _ _ h, n, Reps.mono l _ _ r⟩
theorem OutG.rebase {α β : Type} {A : Wd → Hp → Hp → α → β → Prop} (rb : Rb K mg A) {Wx : WX} {W W1 : Wd} {H H1 : Hp} {m1 : Mu} {σ : L2.St} {r : R α} {Q : β → Hp → Prop} (x1 : St0 K mg W1 m1 H1) (p : Step W H W1 H1)
    (h : OutG K mg A Wx W H σ r Q) : OutG K mg A Wx W1 H1 σ r Q := by
  cases r with
  | ok a m' => exact fun W' b H' x' q av => h W' b H' x' (p.trans x1 q) (rb W H W1 H1 m1 W' H' a b x1 p q av)
  | ex x m' => exact fun W' d H' x' q e => h W' d H' x' (p.trans x1 q) e
  | bad => exact h
/-- THE STEP: the first part is run, the rest goes on from there -/
theorem run {α β γ δ : Type} {A1 : Wd → Hp → Hp → α → β → Prop} {A2 : Wd → Hp → Hp → γ → δ → Prop} (rb : Rb K mg A2) {Wx : WX} {W : Wd} {s : Sl} {m : Mu} {σ : L2.St} {H : Hp} {f : Sl → Mu → R α} {k : α → Mu → R γ} {Q : δ → Hp → Prop} {Q1 : β → Hp → Prop}
    (h : Holds K mg W s m σ H) (o : OutG K mg A2 Wx W H σ ((f s m).bind k) Q)
    (next : ∀ a m1 W1 b H1, f s m = .ok a m1 → Holds K mg W1 s m1 σ H1 → Step W H W1 H1 → A1 W1 H H1 a b → OutG K mg A2 Wx W1 H1 σ (k a m1) Q → Q1 b H1) : tG K mg A1 Wx f σ H Q1 := by
  refine ⟨W, s, m, h, ?_⟩
  cases e : f s m with
  | ok a m1 =>
    rw [e] at o
    exact fun W1 b H1 x1 p av => next a m1 W1 b H1 e (h.step p x1) p av (OutG.rebase rb x1 p o)
  | ex x m1 =>
    rw [e] at o
    exact o
  | bad =>
    rw [e] at o
    exact o
/-- the last part -/
theorem OutG.fin {α β : Type} {A : Wd → Hp → Hp → α → β → Prop} {Wx : WX} {W : Wd} {H : Hp} {m : Mu} {σ : L2.St} {a : α} {b : β} {Q : β → Hp → Prop} (h : OutG K mg A Wx W H σ (.ok a m) Q) (x : St0 K mg W m H) (av : A W H H a b) : Q b H :=
  h W b H x (Step.refl W H) av
theorem OutG.fin2 {α β : Type} {A : Wd → Hp → Hp → α → β → Prop} {Wx : WX} {W W' : Wd} {H H' : Hp} {m' : Mu} {σ : L2.St} {a : α} {b : β} {Q : β → Hp → Prop} (h : OutG K mg A Wx W H σ (.ok a m') Q) (x : St0 K mg W' m' H') (p : Step W H W' H') (av : A W' H H' a b) : Q b H' :=
  h W' b H' x p av

/-! ### containers of one's own frozen -/
theorem CellAt.repU {W : Wd} {H : Hp} {a : Addr} {c : Cell} {o : HO} (h : CellAt K mg W H a c) (e : H a = some o) (n : W.Hf a = none) : Rep K mg ⟨upd W.Hf a o, W.th⟩ c.fz (.ref a) := by
  have l : Le W ⟨upd W.Hf a o, W.th⟩ := ⟨same_upd n o, [], by simp⟩
  refine CellAt.rep (h.mono l fun u e2 => ?_)
  show upd W.Hf a o a = some u
  rw [upd_same, ← e]
  exact e2
/-- a new container of one's own becomes a value -/
theorem freeze_new {W W1 : Wd} {s : Sl} {m m1 : Mu} {σ : L2.St} {H H1 : Hp} {sv : SV} {v : V} (h : Holds K mg W s m σ H) (p : Step W H W1 H1) (h1 : Holds K mg W1 s m1 σ H1) (av : SvAt K mg W1 H H1 sv v) :
    ∃ W2, Holds K mg W2 s m1 σ H1 ∧ Step W H W2 H1 ∧ Rep K mg W2 sv.fz v ∧ Le W1 W2 := by
  cases sv with
  | val d => exact ⟨W1, h1, p, av, Le.refl _⟩
  | own c =>
    obtain ⟨l, rfl, o, n⟩ := av
    obtain ⟨u, e⟩ := o.at_.ex
    obtain ⟨x2, l2⟩ := h1.toSt0.freeze e o.nf o.nt
    refine ⟨⟨upd W1.Hf l u, W1.th⟩, ⟨x2, h1.slen, fun i d e1 => ?_, fun i c' e1 => ?_, h1.dis⟩, ⟨p.sub.trans l2.sub, p.th, p.keep, fun b z e1 e2 e3 t => ?_⟩, CellAt.repU o.at_ e o.nf, l2⟩
    · obtain ⟨v', q, r⟩ := h1.slot i d e1
      exact ⟨v', q, Rep.mono l2 d v' r⟩
    · obtain ⟨a, q, r⟩ := h1.own i c' e1
      obtain ⟨a0, q0, r0⟩ := h.own i c' e1
      rw [q] at q0
      cases q0
      obtain ⟨u0, e0⟩ := r0.at_.ex
      have ne : a ≠ l := ne_of_none e0 n
      refine ⟨a, q, r.at_.mono l2 fun _ z => z, ?_, r.nt⟩
      show upd W1.Hf l u a = none
      rw [upd_ne ne]
      exact r.nf
    · have ne : b ≠ l := ne_of_none e1 n
      show upd W1.Hf l u b = none
      rw [upd_ne ne]
      exact p.nofz b z e1 e2 e3 t
/-- THE STEP for an operand: its value is data from now on -/
theorem runz {γ δ : Type} {A2 : Wd → Hp → Hp → γ → δ → Prop} (rb : Rb K mg A2) {Wx : WX} {W : Wd} {s : Sl} {m : Mu} {σ : L2.St} {H : Hp} {f : Sl → Mu → R SV} {k : SV → Mu → R γ} {Q : δ → Hp → Prop} {Q1 : V → Hp → Prop}
    (h : Holds K mg W s m σ H) (o : OutG K mg A2 Wx W H σ ((f s m).bind k) Q)
    (next : ∀ a m1 W1 v H1, Holds K mg W1 s m1 σ H1 → Step W H W1 H1 → Rep K mg W1 a.fz v → OutG K mg A2 Wx W1 H1 σ (k a m1) Q → Q1 v H1) : tG K mg (SvAt K mg) Wx f σ H Q1 := by
  refine ⟨W, s, m, h, ?_⟩
  cases e : f s m with
  | ok a m1 =>
    rw [e] at o
    intro W1 v H1 x1 p av
    obtain ⟨W2, h2, p2, r2, _⟩ := freeze_new h p (h.step p x1) av
    exact next a m1 W2 v H1 h2 p2 r2 (OutG.rebase rb h2.toSt0 p2 o)
  | ex x m1 =>
    rw [e] at o
    exact o
  | bad =>
    rw [e] at o
    exact o
/-- a slot is stored -/
theorem Holds.put {W : Wd} {s : Sl} {m : Mu} {σ : L2.St} {H : Hp} (h : Holds K mg W s m σ H) (i : Nat) {sv : SV} {v : V}
    (hv : (∃ d : D, sv = SV.val d ∧ Rep K mg W d v) ∨ ∃ (c : Cell) (a : Addr), sv = SV.own c ∧ v = V.ref a ∧ Own K mg W H a c ∧ ∀ (j : Nat) (c' : Cell), s[j]? = some (some (.own c')) → σ[j]? ≠ some (some (.ref a))) :
    Holds K mg W (s.set i (some sv)) m (σ.set i (some v)) H := by
  have e1 : ∀ (j : Nat) (x : SV), (s.set i (some sv))[j]? = some (some x) → (j = i ∧ i < s.length ∧ x = sv) ∨ (j ≠ i ∧ s[j]? = some (some x)) := fun j x e => by
    by_cases hj : i = j
    · subst hj
      by_cases hl : i < s.length
      · rw [List.getElem?_set_self hl] at e
        cases e
        exact .inl ⟨rfl, hl, rfl⟩
      · rw [List.getElem?_eq_none (by simpa using hl)] at e
        cases e
    · rw [List.getElem?_set_ne hj] at e
      exact .inr ⟨fun z => hj z.symm, e⟩
  have e2 : ∀ (j : Nat), j ≠ i → (σ.set i (some v))[j]? = σ[j]? := fun j hj => List.getElem?_set_ne (fun z => hj z.symm)
  have e3 : i < s.length → (σ.set i (some v))[i]? = some (some v) := fun hl => List.getElem?_set_self (by rw [← h.slen]; exact hl)
  refine ⟨h.toSt0, by rw [List.length_set, List.length_set]; exact h.slen, fun j d e => ?_, fun j c e => ?_, fun j k c c' a a1 a2 b1 b2 => ?_⟩
  · rcases e1 j _ e with ⟨rfl, hl, rfl⟩ | ⟨hj, e⟩
    · rcases hv with ⟨d', z, r⟩ | ⟨c, a, z, _⟩
      · cases z
        exact ⟨v, e3 hl, r⟩
      · cases z
    · obtain ⟨w, q, r⟩ := h.slot j d e
      exact ⟨w, (e2 j hj).trans q, r⟩
  · rcases e1 j _ e with ⟨rfl, hl, rfl⟩ | ⟨hj, e⟩
    · rcases hv with ⟨d', z, r⟩ | ⟨c', a, z, rfl, o, _⟩
      · cases z
      · cases z
        exact ⟨a, e3 hl, o⟩
    · obtain ⟨w, q, r⟩ := h.own j c e
      exact ⟨w, (e2 j hj).trans q, r⟩
  · rcases e1 j _ a1 with ⟨rfl, hl, rfl⟩ | ⟨hj, a1'⟩
    · rcases e1 k _ a2 with ⟨rfl, _, _⟩ | ⟨hk, a2'⟩
      · rfl
      · rcases hv with ⟨d', z, r⟩ | ⟨c'', a', z, rfl, o, nn⟩
        · cases z
        · rw [e3 hl] at b1
          cases b1
          rw [e2 k hk] at b2
          exact absurd b2 (nn k c' a2')
    · rcases e1 k _ a2 with ⟨rfl, hl, rfl⟩ | ⟨hk, a2'⟩
      · rcases hv with ⟨d', z, r⟩ | ⟨c'', a', z, rfl, o, nn⟩
        · cases z
        · rw [e3 hl] at b2
          cases b2
          rw [e2 j hj] at b1
          exact absurd b1 (nn j c a1')
      · rw [e2 j hj] at b1
        rw [e2 k hk] at b2
        exact h.dis j k c c' a a1' a2' b1 b2
/-- a slot is forgotten -/
theorem Holds.drop {W : Wd} {s : Sl} {m : Mu} {σ : L2.St} {H : Hp} (h : Holds K mg W s m σ H) (i : Nat) : Holds K mg W (s.set i none) m σ H := by
  have e1 : ∀ (j : Nat) (x : SV), (s.set i none)[j]? = some (some x) → s[j]? = some (some x) := fun j x e => by
    by_cases hj : i = j
    · subst hj
      by_cases hl : i < s.length
      · rw [List.getElem?_set_self hl] at e
        cases e
      · rw [List.getElem?_eq_none (by simpa using hl)] at e
        cases e
    · rw [List.getElem?_set_ne hj] at e
      exact e
  exact ⟨h.toSt0, by rw [List.length_set]; exact h.slen, fun j d e => h.slot j d (e1 j _ e), fun j c e => h.own j c (e1 j _ e), fun j k c c' a a1 a2 => h.dis j k c c' a (e1 j _ a1) (e1 k _ a2)⟩
end
end Dp
end

section
set_option Elab.async false
set_option linter.all false
set_option maxRecDepth 100000
set_option maxHeartbeats 1000000
/-! sorted of lists of data; tuple * int for any int. -/
namespace Dp
open PySem PySem.Spec PyProof.Rows L2
section
variable {X : Cx}
def ltData (p q : PyData) : Bool := !PySem.W.dataLt q p
def rSortedD (K : PySem.W.Frag) : List V → Hp → VK → Prop := fun vs H Q => ∃ (a : Addr) (xs : List V) (ps : List PyData), vs = [V.ref a] ∧ SqL K H a xs ∧ DpAll K H xs ps ∧ xs.length = ps.length ∧ PySem.W.AllAlike ps ∧ PySem.W.Sortable ps ∧ (∀ p ∈ ps, p.depth ≤ 60) ∧
  ∀ p, H p = none → Q (.ref p) (upd H p (.lst (((xs.zip ps).mergeSort fun a b => ltData a.2 b.2).map (·.1))))
theorem each_zip : ∀ {xs : List V} {us : List Value} {ps : List PyData}, Vals xs us → xs.length = ps.length → PySem.W.EachIs (fun (v : Value) (b : V × PyData) => RelV b.1 v) us (xs.zip ps)
  | [], _, ps, r, h => by cases r; exact .nil
  | x :: xs, _, [], r, h => by simp at h
  | x :: xs, _, p :: ps, r, h => by
    cases r with
    | cons r1 r2 => exact .cons r1 (each_zip r2 (by simpa using h))
theorem vals_each : ∀ {bs : List (V × PyData)} {us : List Value}, PySem.W.EachIs (fun (v : Value) (b : V × PyData) => RelV b.1 v) us bs → Vals (bs.map (·.1)) us
  | [], _, h => by cases h; exact .nil
  | b :: bs, _, h => by
    cases h with
    | cons h1 h2 => exact .cons h1 (vals_each h2)
theorem cr_sortedD (hu : X.A.units + 65 < cLine) : CallR X (.builtin "sorted") (rSortedD X.K) := by
  intro pins s σ H vs us Q I r h
  obtain ⟨a, xs, ps, rfl, hs, hd, hlen, hal, hk, hdep, q⟩ := h
  obtain ⟨its, rv, hl, hz⟩ := I.list hs
  rw [Vals.ref1 r]
  obtain ⟨as, ra⟩ := Dp.readsAll I ps xs its hd rv
  have em : (xs.zip ps).map (fun b : V × PyData => b.2) = ps := List.map_snd_zip (by omega)
  have hl2 : (xs.zip ps).length = xs.length := by rw [List.length_zip]; omega
  have hz2 : xs.length ≤ sizeLine := hz
  refine PySem.W.sorted_data (enc := fun b : V × PyData => b.2) (bs := xs.zip ps) (R := fun v b => RelV b.1 v) hl.isList (each_zip rv hlen) (PySem.W.readsAll_each (fun b : V × PyData => b.2) (by rw [em]; exact ra)) (by rw [em]; exact hal) (by rw [em]; exact hk) (by rw [hl2]; exact hz2)
    (fun b hb => ?_) fun out hol he => ?_
  · have : b.2 ∈ ps := by rw [← em]; exact List.mem_map.mpr ⟨b, hb, rfl⟩
    have := hdep _ this
    omega
  · obtain ⟨ep, he'⟩ := PyProof.Rows.sortedAll_at s.heap its (List.toArray out)
    have e2 : (fun a b : V × PyData => ltData a.2 b.2) = PySem.W.dataLe false (fun b : V × PyData => b.2) := by
      rw [PySem.W.dataLe_eq]; rfl
    rw [e2] at q
    refine ⟨.ref _, upd H (s.heap.objs.size + 1) (.lst (((xs.zip ps).mergeSort (PySem.W.dataLe false fun b : V × PyData => b.2)).map (·.1))), I.laid (t' := s.toks) (fun _ _ => PyProof.Rows.sortedAll_old) (Nat.le_succ _) ⟨?_, out, ep, vals_each he, he'⟩, rfl, q _ (I.hok.fresh (Nat.le_succ _))⟩
    rw [List.length_map, List.length_mergeSort, hl2]
    exact hz2
/-! ### tuple * int, once or never -/
theorem tuple_mul1 (l : Addr) (items : Array Value) (n : Nat) (dd : Option Addr) (sl : Array (Option Value)) (u : Tok) :
    Meets (Builtin.«tuple.__mul__» ⟨[.ref l, .int 1 u], []⟩) (fun _ R s => s.heap.get? l = some { cls := .type "tuple", dict := dd, data := .seq items n, slots := sl } ∧
      R (.ok (.ret (Value.ref l))) s) :=
  .of_wp fun prog w A R s h => by
    obtain ⟨hp, g, d, tk, os⟩ := s
    obtain ⟨hl, h⟩ := h
    have f1 := AutoSeq1.idx_int
    have c1 : (items.isEmpty || (1 : Int) == 1) = true := by cases items.isEmpty <;> rfl
    wp_walk using wpAny_loadPart' hl
    repeat (first
      | (refine wpAny_ite_true (decide_eq_true c1) ?_; wp_walk using wpAny_loadPart' hl))
    exact ⟨_, rfl, h⟩
theorem tuple_mul0 (l : Addr) (items : Array Value) (n : Nat) (dd : Option Addr) (sl : Array (Option Value)) (x : Int) (u : Tok) (c0 : (decide (x < -(2 ^ 63)) || decide (x ≥ 2 ^ 63)) = false) (c1 : (items.isEmpty || x == 1) = false) (c2 : (decide (x ≤ 0) || items.isEmpty) = true) :
    Meets (Builtin.«tuple.__mul__» ⟨[.ref l, .int x u], []⟩) (fun _ R s => s.heap.get? l = some { cls := .type "tuple", dict := dd, data := .seq items n, slots := sl } ∧
      R (.ok (.ret (Value.ref s.heap.objs.size))) { s with heap := s.heap.push { cls := Value.type "tuple", data := Data.seq #[] }, toks := s.toks }) :=
  .of_wp fun prog w A R s h => by
    obtain ⟨hp, g, d, tk, os⟩ := s
    obtain ⟨hl, h⟩ := h
    have f1 := AutoSeq1.idx_int
    wp_walk using wpAny_loadPart' hl
    repeat (first
      | (refine wpAny_ite_false (decide_eq_false (by rw [c0]; exact Bool.false_ne_true)) ?_; wp_walk using wpAny_loadPart' hl)
      | (refine wpAny_ite_false (decide_eq_false (by rw [c1]; exact Bool.false_ne_true)) ?_; wp_walk using wpAny_loadPart' hl)
      | (refine wpAny_ite_true (decide_eq_true c2) ?_; wp_walk using wpAny_loadPart' hl))
    exact ⟨_, rfl, h⟩
theorem tuple_mulE (l : Addr) (items : Array Value) (n : Nat) (dd : Option Addr) (sl : Array (Option Value)) (x : Int) (u : Tok) (c0 : (decide (x < -(2 ^ 63)) || decide (x ≥ 2 ^ 63)) = false) (c1 : (items.isEmpty || x == 1) = true) :
    Meets (Builtin.«tuple.__mul__» ⟨[.ref l, .int x u], []⟩) (fun _ R s => s.heap.get? l = some { cls := .type "tuple", dict := dd, data := .seq items n, slots := sl } ∧
      R (.ok (.ret (Value.ref l))) s) :=
  .of_wp fun prog w A R s h => by
    obtain ⟨hp, g, d, tk, os⟩ := s
    obtain ⟨hl, h⟩ := h
    have f1 := AutoSeq1.idx_int
    wp_walk using wpAny_loadPart' hl
    repeat (first
      | (refine wpAny_ite_false (decide_eq_false (by rw [c0]; exact Bool.false_ne_true)) ?_; wp_walk using wpAny_loadPart' hl)
      | (refine wpAny_ite_true (decide_eq_true c1) ?_; wp_walk using wpAny_loadPart' hl))
    exact ⟨_, rfl, h⟩
def rRepS (K : PySem.W.Frag) : R2 := fun x y H Q => ∃ l k xs, x = .ref l ∧ y = .int k ∧ SqT K H l xs ∧ -(2 ^ 63) ≤ k ∧ k < 2 ^ 63 ∧ (((xs = [] ∨ k = 1) ∧ Q (.ref l) H) ∨ (xs ≠ [] ∧ k ≤ 0 ∧ ∀ p, H p = none → Q (.ref p) (upd H p (.tup []))))
theorem op_repS : OpR X (binaryOp .Mult) (rRepS X.K) := by
  intro pins s σ H x y v u Q I rx ry h
  obtain ⟨l, k, xs, rfl, rfl, hT, h1, h2, q⟩ := h
  cases rx
  obtain ⟨t, rfl⟩ := ry
  obtain ⟨its, r, ⟨⟨cls, dd, data, sl⟩, ho, hc, n, hd⟩, hs⟩ := I.tuple hT
  simp only at hc hd
  subst hc hd
  have hle : its.length = xs.length := r.length.symm
  have c0 : (decide (k < -(2 ^ 63)) || decide (k ≥ 2 ^ 63)) = false := by
    rw [decide_eq_false (by omega), decide_eq_false (by omega)] <;> rfl
  rcases q with ⟨e, q⟩ | ⟨hne, hk, q⟩
  · have c1 : (its.toArray.isEmpty || k == 1) = true := by
      rcases e with e | e
      · subst e
        have : its = [] := List.eq_nil_of_length_eq_zero hle
        subst this
        rfl
      · subst e
        cases its.toArray.isEmpty <;> rfl
    refine wpAny_binaryOp_repeat_ref (T := "tuple") (U := "int") (by decide) ⟨_, ho, rfl⟩ (fun s' => typeIs_int s' k t) noFill_tuple_mul F.fills_int_mul F.slot_int_rmul repeat_tuple F.slot_int_index.lookup
      (call_meets F.slot_int_rmul (typeIs_int s k t) F.entry_int_rmul (F.args_int_rmul_2 _ _) (int_rmul_tuple k t l its.toArray n dd sl)
        ⟨ho, rfl, ⟨_, ho, rfl⟩, call_meets F.slot_tuple_mul ⟨_, ho, rfl⟩ F.entry_tuple_mul (F.args_tuple_mul_2 _ _) (tuple_mulE l its.toArray n dd sl k t c0 c1) ⟨ho, ?_⟩⟩)
    exact ⟨.ref l, H, I, rfl, q⟩
  · have hn : its ≠ [] := fun e => hne (by
      rw [e] at hle
      exact List.eq_nil_of_length_eq_zero hle.symm)
    have hi : its.toArray.isEmpty = false := by
      cases its with
      | nil => exact absurd rfl hn
      | cons a b => rfl
    have c1 : (its.toArray.isEmpty || k == 1) = false := by
      rw [hi, Bool.false_or]
      exact beq_eq_false_iff_ne.mpr (by omega)
    have c2 : (decide (k ≤ 0) || its.toArray.isEmpty) = true := by
      rw [hi, Bool.or_false]
      exact decide_eq_true hk
    refine wpAny_binaryOp_repeat_ref (T := "tuple") (U := "int") (by decide) ⟨_, ho, rfl⟩ (fun s' => typeIs_int s' k t) noFill_tuple_mul F.fills_int_mul F.slot_int_rmul repeat_tuple F.slot_int_index.lookup
      (call_meets F.slot_int_rmul (typeIs_int s k t) F.entry_int_rmul (F.args_int_rmul_2 _ _) (int_rmul_tuple k t l its.toArray n dd sl)
        ⟨ho, rfl, ⟨_, ho, rfl⟩, call_meets F.slot_tuple_mul ⟨_, ho, rfl⟩ F.entry_tuple_mul (F.args_tuple_mul_2 _ _) (tuple_mul0 l its.toArray n dd sl k t c0 c1 c2) ⟨ho, ?_⟩⟩)
    refine ⟨.ref s.heap.objs.size, _, I.laid (t' := s.toks) (o := .tup []) (fun b ob q => Heap.get?_push_of_some _ q) (Nat.le_refl _) ?_, rfl, q _ (I.hok.fresh (Nat.le_refl _))⟩
    exact ⟨Nat.zero_le _, [], .nil, IsTup.new _ _⟩
/-! ### sum of a tuple of ints -/
theorem cr_sumT (hc : X.calm = true) : CallR X (.builtin "sum") (fun vs H Q => ∃ (a : Addr) (ns : List Int), vs = [V.ref a] ∧ SqT X.K H a (ns.map V.int) ∧ Q (.int ns.sum) H) := by
  intro pins s σ H vs us Q I r h
  obtain ⟨a, ns, rfl, hs, q⟩ := h
  obtain ⟨its, rv, hl, hz⟩ := I.tuple hs
  rw [Vals.ref1 r]
  have hi := rv.ints
  obtain ⟨xs, hx⟩ := hi.allInts.items
  have hn : numsOf its.toArray.toList = ns := by rw [show its.toArray.toList = its from rfl, hi.numsOf]
  rw [hx] at hl hn
  rw [nums_intItems] at hn
  refine PySem.W.ktm_sumG (A := X.A) (I.ok.hd hc) hl fun h' tk t' hk => ?_
  rw [preSum_eq, List.take_of_length_le (by simp), hn]
  exact ⟨.int _, H, I.kept hk, ⟨_, rfl⟩, q⟩
end
end Dp
end

section
set_option Elab.async false
set_option linter.all false
set_option maxRecDepth 100000
/-! The deep layer, part 3: the small syntax and its pure reading. -/
namespace Dp
open PySem PySem.Spec PyProof.Rows L2

/-! ### data as the library's -/
mutual
def D.py : D → Option PyData
  | .non => some .none
  | .bl b => some (.bool b)
  | .int i => some (.int i)
  | .str x => some (.str x)
  | .tup ds => (D.pys ds).map .tuple
  | .lst ds => (D.pys ds).map .list
  | .seq ds => (D.pys ds).map .list
  | .dk _ _ => none
  | .dt _ _ => none
  | .ins _ _ _ => none
  | .ref _ => none
  | .gl _ => none
  | .cl _ => none
def D.pys : List D → Option (List PyData)
  | [] => some []
  | d :: ds => (D.py d).bind fun p => (D.pys ds).map fun ps => p :: ps
end
def D.nums : List D → Option (List Int)
  | [] => some []
  | .int i :: ds => (D.nums ds).map fun l => i :: l
  | _ :: _ => none
def D.bls : List D → Option (List Bool)
  | [] => some []
  | .bl i :: ds => (D.bls ds).map fun l => i :: l
  | _ :: _ => none

/-! ### the small syntax -/
inductive BO where
  | add | sub | mul | fdiv | mod | pow | band
deriving DecidableEq
inductive CO where
  | eq | ne | lt | le | gt | ge | inn | nin | isn | ntn
deriving DecidableEq
/-- built-in functions of values -/
inductive BF where
  | len | int | abs | min | max | tuple | list | sum | sorted | sortedR | all | any | divmod
deriving DecidableEq
/-- what isinstance asks for: a built-in class, a class of the program -/
inductive Ty where
  | bt (n : String) | own (c : Str)
deriving DecidableEq
/-- targets -/
inductive T where
  | nm (i : Nat) | tp (l : List Nat) | tl (l : List Nat)
mutual
inductive E where
  | var (i : Nat)
  | int (n : Int) | bl (b : Bool) | non | str (x : Str)
  | gint (x : Str) (n : Int) | gdef (x : Str)
  | bin (o : BO) (a b : P)
  | neg (a : E)
  | cmp (o : CO) (a b : P)
  | chn (o p : CO) (a b c : E)
  | not (a : E) | and (es : Es) | or (es : Es)
  | ife (c : B) (a b : E)
  | tup (es : Es) | lst (es : Es)
  | idx (a : P) (b : E) | slc (a : P) (lo hi : O)
  | call (k : Nat) (es : Es)
  | new (c : Str) (k : Nat) (es : Es)
  | meth (o : E) (m : Str) (cs : List (Str × Nat)) (es : Es)
  | attr (o : P) (f : Str)
  | bif (f : BF) (es : Ps) | leno (a : E) (ks : List (Str × Nat))
  | isi (a : E) (t : Ty) | isis (a : E) (ts : List Ty)
  | lc (t : T) (own : List (Str × Nat)) (it : I) (c : OB) (e : E)
  | mpop (o : E)
  | dget (o : P) (k e : E)
  | inm (neg : Bool) (a o : E) (ks : List (Str × Nat))
  | dnew (tk : Bool)
  | dset (k v : E)
  | mpopI (o a : E)
  | prop (o : E) (f : Str) (cs : List (Str × Nat))
  | cmeth (c m : Str) (k : Nat) (es : Es)
  | newv (i : Nat) (c : Str) (k : Nat) (es : Es)
  | bop (o : BO) (ks : List (Str × Nat)) (a b : E)
  | dc (tk : Bool) (t : T) (own : List (Str × Nat)) (it : I) (c : OB) (k v : E)
  | lcd (i : Nat) (t : T) (own : List (Str × Nat)) (c : OB) (e : E)
  | lco (i : Nat) (t : T) (own : List (Str × Nat)) (c : OB) (e : E)
inductive Es where
  | nil | cons (e : E) (r : Es)
inductive P where
  | e (e : E) | sl (i : Nat)
inductive Ps where
  | nil | cons (e : P) (r : Ps)
inductive O where
  | none | some (e : E)
inductive OB where
  | none | some (b : B)
inductive B where
  | e (e : P) | cmp (o : CO) (a b : P) | chn (o p : CO) (a b c : E) | not (b : B) | and (bs : Bs) | or (bs : Bs) | inm (neg : Bool) (a o : E) (ks : List (Str × Nat))
inductive Bs where
  | nil | cons (b : B) (r : Bs)
inductive I where
  | seq (e : E) | rng1 (a : E) | rng2 (a b : E) | enum (e : E) | zip (a b : E) | rev (e : E) | revr (a : E)
end
/-- methods that change a container of one's own -/
inductive OM where
  | append | insert | pop | popAt | reverse | extend | clear
deriving DecidableEq
/-- what an except suite hands back -/
inductive HI where
  | str (x : Str) | int (n : Int) | fld (f : Str)
inductive HS where
  | retL (l : List HI) | retB (b : Bool) | asgL (t : Nat) (l : List HI)
/-- an except clause: its class, the slot of its name -/
structure Hc where
  cls : Str
  nm : Option Nat
  su : HS
mutual
inductive S where
  | ex (e : E)
  | rse (c : Str) (e : E)
  | try_ (b : Ss) (hs : List Hc)
  | mov (i j : Nat)
  | asg (t : T) (e : E)
  | asgO (i : Nat) (e : E)
  | asgM (i : Nat) (e : E)
  | aug (i : Nat) (o : BO) (e : E)
  | om (i : Nat) (m : OM) (es : Es)
  | omr (t : Nat) (i : Nat) (m : OM) (es : Es)
  | seti (i : Nat) (a e : E)
  | setf (i : Nat) (f : Str) (e : E)
  | augs (i : Nat) (o : BO) (a e : E)
  | ret (e : E) | retS (i : Nat) | retN
  | ife (c : B) (a b : Ss)
  | for_ (t : T) (it : I) (body : Ss) (fg : List Nat)
  | whl (n : Nat) (c : B) (body : Ss) (fg : List Nat)
  | pass | brk | cont
  | never
  | gfz (i : Nat) | gfg (is : List Nat)
inductive Ss where
  | nil | cons (s : S) (r : Ss)
end
structure Fn where
  at_ : Str × Option Str
  qual : Str
  ps : List Str
  N : List Str
  dfl : List D
  body : Ss
structure Prog where
  fns : List Fn
  gints : List (Str × Int)
  flds : List (Str × List Str)
  clss : List Str
  subs : List ((Ty × Ty) × Bool)
  news : List (Str × Nat)
  mets : List ((Str × Str) × Nat)
  cms : List ((Str × Str) × Nat) := []
  props : List ((Str × Str) × Nat) := []
  ops : List ((Str × BO) × Nat) := []
  exs : List (Str × Str) := []
  exm : List ((Str × Str) × Bool) := []

/-! ### operations on data -/
def guardR {α : Type} (b : Bool) (r : R α) : R α := if b = true then r else .bad
def r62 (n : Int) : Bool := decide (-(2 ^ 62) ≤ n) && decide (n < 2 ^ 62)
def r63 (n : Int) : Bool := decide (0 ≤ n) && decide (n < 2 ^ 63)
def rs63 (n : Int) : Bool := decide (-(2 ^ 63) ≤ n) && decide (n < 2 ^ 63)
theorem r63_le {n : Int} (h : r63 n = true) : 0 ≤ n ∧ n < 2 ^ 63 := by
  unfold r63 at h
  rw [Bool.and_eq_true, decide_eq_true_eq, decide_eq_true_eq] at h
  exact h
theorem rs63_le {n : Int} (h : rs63 n = true) : -(2 ^ 63) ≤ n ∧ n < 2 ^ 63 := by
  unfold rs63 at h
  rw [Bool.and_eq_true, decide_eq_true_eq, decide_eq_true_eq] at h
  exact h
def small64 (i : Int) : Bool := decide (-(2 ^ 64) < i) && decide (i < 2 ^ 64)
/-- may the tuple be repeated so often? -/
def tmOk (a : List D) (j : Int) : Bool := rs63 j && (decide (j ≤ 1) || (a.isEmpty || (decide (j ≤ 1000) && decide (a.length ≤ 1000))))
def opB : BO → D → D → Mu → R SV
  | .add, .int i, .int j, m => .ok (.val (.int (i + j))) m
  | .add, .tup a, .tup b, m => guardR (decide (a.length + b.length ≤ sizeLine)) (.ok (.val (.tup (a ++ b))) m)
  | .add, .lst a, .lst b, m => guardR (decide (a.length + b.length ≤ sizeLine)) (.ok (.own (.lst (a ++ b))) m)
  | .add, .str a, .str b, m => guardR (decide (a.length + b.length ≤ sizeLine)) (.ok (.val (.str (a ++ b))) m)
  | .sub, .int i, .int j, m => .ok (.val (.int (i - j))) m
  | .mul, .int i, .int j, m => guardR (small64 i || small64 j) (.ok (.val (.int (i * j))) m)
  | .mul, .lst a, .int j, m => guardR (decide (-(2 ^ 63) ≤ j) && (decide (j < 2 ^ 63) && decide (a.length * j.toNat ≤ sizeLine))) (.ok (.own (.lst (List.replicate j.toNat a).flatten)) m)
  | .mul, .tup a, .int j, m => guardR (tmOk a j) (.ok (.val (.tup (List.replicate j.toNat a).flatten)) m)
  | .fdiv, .int i, .int j, m => guardR (decide (0 < j) && decide (j < 1073741824)) (.ok (.val (.int (i / j))) m)
  | .mod, .int i, .int j, m => guardR (decide (0 < j)) (.ok (.val (.int (i % j))) m)
  | .pow, .int i, .int j, m => guardR (decide (0 ≤ j) && (decide (j ≤ 1000000) && decide (i.natAbs < 2 ^ 64))) (.ok (.val (.int (i ^ j.toNat))) m)
  | .band, .int i, .int j, m => .ok (.val (.int (Builtin.bitAnd i j))) m
  | _, _, _, _ => .bad
def eqD? (a b : D) : Option Bool := match a.py, b.py with
  | some p, some q => if (SeqAt.shaped p && SeqAt.shaped q) = true then some (PyData.eqv p q) else none
  | _, _ => none
def keyD : D → Option Key
  | .int i => some (.inl i)
  | .str x => some (.inr x)
  | _ => none
def keysD : List D → Option (List Key)
  | [] => some []
  | d :: ds => (keyD d).bind fun k => (keysD ds).map fun l => k :: l
def inD? (a : D) : D → Option Bool
  | .lst ds => (match a.py, D.pys ds with
    | some p, some qs => if (SeqAt.shaped p && SeqAt.shaped (.list qs)) = true then some (qs.any fun z => PyData.eqv z p) else none
    | _, _ => none)
  | .tup ds => (match a, D.nums ds with
    | .int i, some l => some (l.any fun z => z == i)
    | _, _ => none)
  | .dk ks _ => (match a with
    | .int i => some (ks.any fun z => decide (z = .inl i))
    | .str x => some (ks.any fun z => decide (z = .inr x))
    | _ => none)
  | .dt ks _ => (match a with
    | .tup ys => (keysD ys).map fun k => ks.any fun z => decide (z = k)
    | _ => none)
  | _ => none
def cmpI? (f : Int → Int → Bool) : D → D → Option Bool
  | .int i, .int j => some (f i j)
  | _, _ => none
def isNon : D → Bool
  | .non => true
  | _ => false
def cmpD? (o : CO) (a b : D) : Option Bool := match o with
  | .eq => eqD? a b
  | .ne => (eqD? a b).map not
  | .lt => cmpI? (fun i j => decide (i < j)) a b
  | .le => cmpI? (fun i j => decide (i ≤ j)) a b
  | .gt => cmpI? (fun i j => decide (j < i)) a b
  | .ge => cmpI? (fun i j => decide (j ≤ i)) a b
  | .inn => inD? a b
  | .nin => (inD? a b).map not
  | .isn => if isNon b = true then some (isNon a) else none
  | .ntn => if isNon b = true then some (!isNon a) else none
def opC (o : CO) (a b : D) (m : Mu) : R SV := match cmpD? o a b with
  | some r => .ok (.val (.bl r)) m
  | none => .bad
def truthD : D → Option Bool
  | .non => some false
  | .bl b => some b
  | .int i => some (i != 0)
  | .tup ds => some (!ds.isEmpty)
  | .lst ds => some (!ds.isEmpty)
  | .seq ds => some (!ds.isEmpty)
  | .dk ks _ => some (!ks.isEmpty)
  | _ => none
def putKN {κ : Type} [DecidableEq κ] (k : κ) (ks : List κ) : List κ := if (ks.any fun g => decide (g = k)) = true then ks else ks ++ [k]
def putKD {κ α : Type} [DecidableEq κ] (k : κ) (d : α) (ks : List κ) (ds : List α) : List α := if (ks.any fun g => decide (g = k)) = true then (ks.zip ds).map (fun p => if p.1 = k then d else p.2) else ds ++ [d]
def valD {κ α : Type} [DecidableEq κ] (ks : List κ) (ds : List α) (k : κ) : Option α := ((ks.zip ds).find? fun p => decide (p.1 = k)).map (·.2)
def keyT : D → Option (List Key)
  | .tup ds => keysD ds
  | _ => none
def kD : Key → D
  | .inl i => .int i
  | .inr x => .str x
def dgetV : D → D → D → Option D
  | .dk ks ds, y, z => (keyD y).map fun k => (valD ks ds k).getD z
  | .dt ks ds, y, z => (keyT y).map fun k => (valD ks ds k).getD z
  | _, _, _ => none
def isDct : D → Bool
  | .dk _ _ => true
  | .dt _ _ => true
  | _ => false
def isML (m : Mu) : D → Bool
  | .ref i => (match m[i]? with | some (.lst _) => true | _ => false)
  | _ => false
/-- xs[i] -/
def atD (ds : List D) (i : Int) : Option D := atI ds i
def opIx : D → D → Mu → R SV
  | .tup ds, .int i, m => (match atI ds i with | some d => .ok (.val d) m | none => .bad)
  | .lst ds, .int i, m => (match atI ds i with | some d => .ok (.val d) m | none => .bad)
  | .seq ds, .int i, m => (match atI ds i with | some d => .ok (.val d) m | none => .bad)
  | .dk ks ds, .int i, m => (match valD ks ds (.inl i) with | some d => .ok (.val d) m | none => .bad)
  | .dk ks ds, .str i, m => (match valD ks ds (.inr i) with | some d => .ok (.val d) m | none => .bad)
  | .dt ks ds, .tup y, m => (match keysD y with | some k => (match valD ks ds k with | some d => .ok (.val d) m | none => .bad) | none => .bad)
  | _, _, _ => .bad
def cutD (xs : List D) (lo hi : Option Int) : List D := (xs.drop (HT.sIx xs.length 0 lo)).take (HT.sIx xs.length xs.length hi - HT.sIx xs.length 0 lo)
def opSl : D → Option Int → Option Int → Mu → R SV
  | .lst ds, lo, hi, m => .ok (.own (.lst (cutD ds lo hi))) m
  | .tup ds, lo, hi, m => .ok (.val (.tup (cutD ds lo hi))) m
  | _, _, _, _ => .bad
/-- a list of ints in order -/
def insI (x : Int) : List Int → List Int
  | [] => [x]
  | y :: r => if x ≤ y then x :: y :: r else y :: insI x r
def sortI : List Int → List Int
  | [] => []
  | x :: r => insI x (sortI r)
def maxI : Int → List Int → Int
  | a, [] => a
  | a, b :: r => maxI (if b > a then b else a) r
def minI : Int → List Int → Int
  | a, [] => a
  | a, b :: r => minI (if b < a then b else a) r
def keysI : List Key → Option (List Int)
  | [] => some []
  | .inl i :: r => (keysI r).map fun l => i :: l
  | _ :: _ => none
/-- any data that may be compared, sorted -/
def pyD (d : D) : PyData := (D.py d).getD .none
def srtD (ds : List D) : List D := ds.mergeSort fun a b => ltData (pyD a) (pyD b)
def insD (x : D) : List D → List D
  | [] => [x]
  | y :: r => if ltData (pyD x) (pyD y) = true then x :: y :: r else y :: insD x r
def isrtD : List D → List D
  | [] => []
  | x :: r => insD x (isrtD r)
def tupB : PyData → Bool
  | .tuple (_ :: _) => true
  | _ => false
def othB : PyData → Bool
  | .none => false
  | .tuple _ => false
  | _ => true
def srtB (ds : List D) : Bool := match D.pys ds with
  | some ps => (ps.all fun d => ps.all fun e => PySem.W.alike d e) && ((ps.all tupB || ps.all othB) && ps.all fun p => decide (p.depth ≤ 60))
  | none => false
def srtR (ds : List D) (m : Mu) : R SV := if srtB ds = true then .ok (.own (.lst (isrtD ds))) m else .bad
/-- a built-in function -/
def opF : BF → List D → Mu → R SV
  | .len, [.tup ds], m => .ok (.val (.int ds.length)) m
  | .len, [.lst ds], m => .ok (.val (.int ds.length)) m
  | .len, [.seq ds], m => .ok (.val (.int ds.length)) m
  | .len, [.dk ks _], m => .ok (.val (.int ks.length)) m
  | .int, [.int i], m => .ok (.val (.int i)) m
  | .int, [.bl b], m => .ok (.val (.int (if b then 1 else 0))) m
  | .abs, [.int i], m => .ok (.val (.int (if i < 0 then -i else i))) m
  | .max, [.int i, .int j], m => .ok (.val (.int (if j > i then j else i))) m
  | .min, [.int i, .int j], m => .ok (.val (.int (if j < i then j else i))) m
  | .max, [.lst ds], m => (match D.nums ds with | some (a :: l) => .ok (.val (.int (maxI a l))) m | _ => .bad)
  | .min, [.lst ds], m => (match D.nums ds with | some (a :: l) => .ok (.val (.int (minI a l))) m | _ => .bad)
  | .tuple, [.lst ds], m => .ok (.val (.tup ds)) m
  | .tuple, [.seq ds], m => .ok (.val (.tup ds)) m
  | .tuple, [.tup ds], m => .ok (.val (.tup ds)) m
  | .list, [.lst ds], m => .ok (.own (.lst ds)) m
  | .list, [.seq ds], m => .ok (.own (.lst ds)) m
  | .list, [.tup ds], m => .ok (.own (.lst ds)) m
  | .list, [.dt ks _], m => .ok (.own (.lst (ks.map fun k => .tup (k.map kD)))) m
  | .sum, [.tup ds], m => (match D.nums ds with | some l => .ok (.val (.int l.sum)) m | none => .bad)
  | .divmod, [.int i, .int j], m => guardR (decide (0 < j) && decide (j < 1073741824)) (.ok (.val (.tup [.int (i / j), .int (i % j)])) m)
  | .sum, [.lst ds], m => (match D.nums ds with | some l => .ok (.val (.int l.sum)) m | none => .bad)
  | .sorted, [.lst ds], m => (match D.nums ds with | some l => .ok (.own (.lst ((sortI l).map .int))) m | none => srtR ds m)
  | .sortedR, [.dk ks _], m => (match keysI ks with | some l => guardR (decide (l.length < 64)) (.ok (.own (.lst ((sortI l).reverse.map .int))) m) | none => .bad)
  | .all, [.lst ds], m => (match D.bls ds with | some l => .ok (.val (.bl (l.all id))) m | none => .bad)
  | .any, [.lst ds], m => (match D.bls ds with | some l => .ok (.val (.bl (l.any id))) m | none => .bad)
  | _, _, _ => .bad
/-- a shared cell is read -/
def seeD (m : Mu) : D → D
  | .ref i => (match m[i]? with | some c => c.fz | none => .ref i)
  | d => d
/-- the type of a value -/
def tyOfD : D → Option Ty
  | .non => some (.bt "NoneType")
  | .bl _ => some (.bt "bool")
  | .int _ => some (.bt "int")
  | .str _ => some (.bt "str")
  | .tup _ => some (.bt "tuple")
  | .lst _ => some (.bt "list")
  | .seq _ => some (.bt "list")
  | .dk _ _ => some (.bt "dict")
  | .dt _ _ => none
  | .ins c _ _ => some (.own c)
  | .ref _ => none
  | .gl _ => some (.bt "tuple")
  | .cl _ => none
/-- the built-in classes that are asked for -/
def btNames : List String := ["bool", "int", "str", "tuple", "list", "dict"]
def btSub (a b : String) : Bool := a == b || (a == "bool" && b == "int")
def isSub (subs : List ((Ty × Ty) × Bool)) (s t : Ty) : Option Bool := match s, t with
  | .bt a, .bt b => if (a :: btNames).contains b = true then some (btSub a b) else none
  | _, _ => subs.lookup (s, t)
def isTyD (subs : List ((Ty × Ty) × Bool)) (d : D) (t : Ty) : Option Bool := (tyOfD d).bind fun s => isSub subs s t
def isTyA (subs : List ((Ty × Ty) × Bool)) (d : D) : List Ty → Option Bool
  | [] => some false
  | t :: ts => match isTyD subs d t with
    | some true => some true
    | some false => isTyA subs d ts
    | none => none
def putFN (f : Str) : List Str → List Str
  | [] => [f]
  | g :: r => if g = f then g :: r else g :: putFN f r
def putFD (f : Str) (d : D) : List Str → List D → List D
  | [], _ => [d]
  | g :: r, x :: xs => if g = f then d :: xs else x :: putFD f d r xs
  | _ :: _, [] => [d]
def getFD (f : Str) : List Str → List D → Option D
  | g :: r, x :: xs => if f = g then some x else getFD f r xs
  | _, _ => none
/-- a target's slots -/
def bindT (s : Sl) : T → D → Option Sl
  | .nm i, d => some (s.set i (some (.val d)))
  | .tp l, .tup ds => if l.length = ds.length then some ((l.zip ds).foldl (fun s p => s.set p.1 (some (.val p.2))) s) else none
  | .tl l, .lst ds => if l.length = ds.length then some ((l.zip ds).foldl (fun s p => s.set p.1 (some (.val p.2))) s) else none
  | .tp _, _ => none
  | .tl _, _ => none
def wipeS (s : Sl) : List Nat → Sl
  | [] => s
  | i :: r => (wipeS s r).set i none
mutual
/-- no shared cell from n on is named -/
def D.lo (n : Nat) : D → Bool
  | .ref i => decide (i < n)
  | .tup ds => D.los n ds
  | .lst ds => D.los n ds
  | .seq ds => D.los n ds
  | .dk _ ds => D.los n ds
  | .dt _ ds => D.los n ds
  | .ins _ _ ds => D.los n ds
  | .non => true
  | .bl _ => true
  | .int _ => true
  | .str _ => true
  | .gl _ => true
  | .cl _ => true
def D.los (n : Nat) : List D → Bool
  | [] => true
  | d :: ds => D.lo n d && D.los n ds
end
open Classical in
/-- a new instance behind its __init__ -/
noncomputable def newR (m1 : Mu) (r : SV) (m2 : Mu) : R SV := match r with
  | .val .non => (match m2.getLast? with
    | some c => if m2 = m1 ++ [c] ∧ D.lo m1.length c.fz = true then .ok (.own c) m1 else .bad
    | none => .bad)
  | _ => .bad
/-- the turns of a comprehension -/
def lcL (f : D → Mu → R (Option D)) : List D → List D → Mu → R (List D)
  | [], acc, m => .ok acc m
  | d :: ds, acc, m => (f d m).bindN fun o m1 => (match o with
    | some x => guardR (decide (acc.length < sizeLine)) (lcL f ds (acc ++ [x]) m1)
    | none => lcL f ds acc m1)

/-- the container that a dict comprehension fills -/
def dcE (tk : Bool) : Cell := if tk = true then .dt [] [] else .dk [] []
/-- one entry more -/
def dcPut : Cell → D → D → Option Cell
  | .dk ks ds, .int i, d => if ks.length < sizeLine then some (.dk (putKN (.inl i) ks) (putKD (.inl i) d ks ds)) else none
  | .dk ks ds, .str i, d => if ks.length < sizeLine then some (.dk (putKN (.inr i) ks) (putKD (.inr i) d ks ds)) else none
  | .dt ks ds, .tup y, d => (match keysD y with | some k => if ks.length < sizeLine then some (.dt (putKN k ks) (putKD k d ks ds)) else none | none => none)
  | _, _, _ => none
/-- the turns of a dict comprehension -/
def dcL (f : D → Mu → R (Option (D × D))) : List D → Cell → Mu → R Cell
  | [], acc, m => .ok acc m
  | d :: ds, acc, m => (f d m).bindN fun o m1 => (match o with
    | some x => (match dcPut acc x.1 x.2 with
      | some acc' => dcL f ds acc' m1
      | none => .bad)
    | none => dcL f ds acc m1)
/-- an operand that an instance's operator takes -/
def opdOk (c : Str) : D → Bool
  | .int _ => true
  | .ins c' _ _ => decide (c' = c)
  | _ => false

/-! ### reading expressions -/
noncomputable section
variable (G : Prog) (cf : Nat → List D → Mu → R SV)
mutual
def evE : E → Sl → Mu → R SV
  | .var i, s, m => (match s[i]? with | some (some (.val d)) => .ok (.val d) m | _ => .bad)
  | .int n, _, m => .ok (.val (.int n)) m
  | .bl b, _, m => .ok (.val (.bl b)) m
  | .non, _, m => .ok (.val .non) m
  | .str x, _, m => .ok (.val (.str x)) m
  | .gint _ n, _, m => .ok (.val (.int n)) m
  | .gdef x, _, m => .ok (.val (.gl x)) m
  | .bin o a b, s, m => (evP a s m).bind fun x m1 => (evP b s m1).bind fun y m2 => opB o (seeD m2 x) (seeD m2 y) m2
  | .neg a, s, m => (evE a s m).bind fun x m1 => (match x.fz with | .int i => .ok (.val (.int (-i))) m1 | _ => .bad)
  | .cmp o a b, s, m => (evP a s m).bind fun x m1 => (evP b s m1).bind fun y m2 => opC o (seeD m2 x) (seeD m2 y) m2
  | .chn o p a b c, s, m => (evE a s m).bind fun x m1 => (evE b s m1).bind fun y m2 => (opC o x.fz y.fz m2).bind fun r m3 => (match r.fz with
    | .bl true => (evE c s m3).bind fun z m4 => opC p y.fz z.fz m4
    | .bl false => .ok (.val (.bl false)) m3
    | _ => .bad)
  | .not a, s, m => (evE a s m).bind fun x m1 => (match x.fz with | .bl b => .ok (.val (.bl (!b))) m1 | _ => .bad)
  | .and es, s, m => evAnd es s m
  | .or es, s, m => evOr es s m
  | .ife c a b, s, m => (evB c s m).bind fun t m1 => if t = true then evE a s m1 else evE b s m1
  | .tup es, s, m => (evEs es s m).bind fun ds m1 => guardR (decide (ds.length ≤ sizeLine)) (.ok (.val (.tup ds)) m1)
  | .lst es, s, m => (evEs es s m).bind fun ds m1 => guardR (decide (ds.length ≤ sizeLine)) (.ok (.own (.lst ds)) m1)
  | .idx a b, s, m => (evP a s m).bind fun x m1 => (evE b s m1).bind fun y m2 => opIx (seeD m2 x) y.fz m2
  | .slc a lo hi, s, m => (evP a s m).bind fun x m1 => (evO lo s m1).bind fun l m2 => (evO hi s m2).bind fun h m3 => opSl (seeD m3 x) l h m3
  | .call k es, s, m => (evEs es s m).bind fun ds m1 => cf k ds m1
  | .new c k es, s, m => (evEs es s m).bind fun ds m1 => (cf k (.ref m1.length :: ds) (m1 ++ [.ins c [] []])).bind fun r m2 => newR m1 r m2
  | .meth o mn cs es, s, m => (evE o s m).bind fun x m1 => (match seeD m1 x.fz with
    | .ins c ns _ => (match cs.lookup c with
      | some k => guardR (!ns.contains mn) ((evEs es s m1).bind fun ds m2 => cf k (x.fz :: ds) m2)
      | none => .bad)
    | _ => .bad)
  | .attr o f, s, m => (evP o s m).bind fun x m1 => (match seeD m1 x with
    | .ins c ns ds => (match G.flds.lookup c, getFD f ns ds with
      | some fl, some d => guardR (decide (f ∈ fl)) (.ok (.val d) m1)
      | _, _ => .bad)
    | _ => .bad)
  | .bif f es, s, m => (evPs es s m).bind fun ds m1 => opF f (ds.map (seeD m1)) m1
  | .leno a ks, s, m => (evE a s m).bind fun x m1 => (match seeD m1 x.fz with
    | .ins c _ _ => (match ks.lookup c with
      | some k => (cf k [x.fz] m1).bindN fun r m2 => (match r.fz with
        | .int n => guardR (r63 n) (.ok (.val (.int n)) m2)
        | _ => .bad)
      | none => .bad)
    | _ => .bad)
  | .isi a t, s, m => (evE a s m).bind fun x m1 => (match isTyD G.subs (seeD m1 x.fz) t with | some b => .ok (.val (.bl b)) m1 | none => .bad)
  | .isis a ts, s, m => (evE a s m).bind fun x m1 => (match isTyA G.subs (seeD m1 x.fz) ts with | some b => .ok (.val (.bl b)) m1 | none => .bad)
  | .lc t own it c e, s, m => (evI it s m).bind fun ds m1 => (lcL (fun d m2 => (match bindT (wipeS s (own.map (·.2))) t d with
      | some s2 => (evOB c s2 m2).bind fun b m3 => if b = true then (evE e s2 m3).bind fun x m4 => .ok (some x.fz) m4 else .ok none m3
      | none => .bad)) ds [] m1).bind fun r m5 => .ok (.own (.lst r)) m5
  | .mpop o, s, m => (evE o s m).bind fun x m1 => (match x.fz with
    | .ref i => (match m1[i]? with
      | some (.lst ds) => (match ds.getLast? with
        | some d => .ok (.val d) (m1.set i (.lst ds.dropLast))
        | none => .bad)
      | _ => .bad)
    | _ => .bad)
  | .dget o k e, s, m => (evP o s m).bind fun x m1 => if isDct (seeD m1 x) = true then (evE k s m1).bind fun y m2 => (evE e s m2).bind fun z m3 => (match dgetV (seeD m3 x) y.fz z.fz with
      | some d => .ok (.val d) m3
      | none => .bad) else .bad
  | .dset k v, s, m => (evE k s m).bind fun y m1 => (evE v s m1).bind fun z m2 => (match keyT y.fz with
      | some key => .ok (.own (.dt [key] [z.fz])) m2
      | none => .bad)
  | .mpopI o a, s, m => (evE o s m).bind fun x m1 => if isML m1 x.fz = true then (evE a s m1).bind fun y m2 => (match x.fz, y.fz with
      | .ref i, .int j => (match m2[i]? with
        | some (.lst ds) => if rs63 j = true then (match seqIndex? j ds.length with
          | some k => (match ds[k]? with
            | some d => .ok (.val d) (m2.set i (.lst (ds.eraseIdx k)))
            | none => .bad)
          | none => .bad) else .bad
        | _ => .bad)
      | _, _ => .bad) else .bad
  | .inm neg a o ks, s, m => (evE a s m).bind fun x m1 => (evE o s m1).bind fun y m2 => (match seeD m2 y.fz with
    | .ins c _ _ => (match ks.lookup c with
      | some k => (cf k [y.fz, x.fz] m2).bindN fun r m3 => (match r.fz with
        | .bl b => .ok (.val (.bl (if neg = true then !b else b))) m3
        | _ => .bad)
      | none => .bad)
    | _ => .bad)
  | .prop o _ cs, s, m => (evE o s m).bind fun x m1 => (match seeD m1 x.fz with
    | .ins c _ _ => (match cs.lookup c with
      | some k => (cf k [x.fz] m1).bindN fun r m2 => (match r with
        | .val d => .ok (.val d) m2
        | _ => .bad)
      | none => .bad)
    | _ => .bad)
  | .cmeth c _ k es, s, m => (evEs es s m).bind fun ds m1 => cf k (.cl c :: ds) m1
  | .newv i c k es, s, m => (match s[i]? with
    | some (some (.val (.cl c'))) => if c' = c then (evEs es s m).bind fun ds m1 => (cf k (.ref m1.length :: ds) (m1 ++ [.ins c [] []])).bind fun r m2 => newR m1 r m2 else .bad
    | _ => .bad)
  | .bop _ ks a b, s, m => (evE a s m).bind fun x m1 => (evE b s m1).bind fun y m2 => (match seeD m2 x.fz with
    | .ins c _ _ => (match ks.lookup c with
      | some k => if opdOk c (seeD m2 y.fz) = true then cf k [x.fz, y.fz] m2 else .bad
      | none => .bad)
    | _ => .bad)
  | .dc tk t own it c k v, s, m => (evI it s m).bind fun ds m1 => (dcL (fun d m2 => (match bindT (wipeS s (own.map (·.2))) t d with
      | some s2 => (evOB c s2 m2).bind fun b m3 => if b = true then (evE k s2 m3).bind fun x m4 => (evE v s2 m4).bind fun y m5 => .ok (some (x.fz, y.fz)) m5 else .ok none m3
      | none => .bad)) ds (dcE tk) m1).bind fun r m5 => .ok (.own r) m5
  | .lcd i t own c e, s, m => (match s[i]? with
    | some (some (.val (.dt ks _))) => (lcL (fun d m2 => (match bindT (wipeS s (own.map (·.2))) t d with
      | some s2 => (evOB c s2 m2).bind fun b m3 => if b = true then (evE e s2 m3).bind fun x m4 => .ok (some x.fz) m4 else .ok none m3
      | none => .bad)) (ks.map fun k => .tup (k.map kD)) [] m).bind fun r m5 => .ok (.own (.lst r)) m5
    | _ => .bad)
  | .lco i t own c e, s, m => (match s[i]? with
    | some (some (.own (.lst ds))) => (lcL (fun d m2 => (match bindT (wipeS s (own.map (·.2))) t d with
      | some s2 => (evOB c s2 m2).bind fun b m3 => if b = true then (evE e s2 m3).bind fun x m4 => .ok (some x.fz) m4 else .ok none m3
      | none => .bad)) ds [] m).bind fun r m5 => .ok (.own (.lst r)) m5
    | _ => .bad)
  | .dnew true, _, m => .ok (.own (.dt [] [])) m
  | .dnew false, _, m => .ok (.own (.dk [] [])) m
def evEs : Es → Sl → Mu → R (List D)
  | .nil, _, m => .ok [] m
  | .cons e r, s, m => (evE e s m).bind fun x m1 => (evEs r s m1).bind fun xs m2 => .ok (x.fz :: xs) m2
/-- an operand that is read: a shared cell, a container of one's own as it stands -/
def evP : P → Sl → Mu → R D
  | .e e, s, m => (evE e s m).bind fun x m1 => .ok x.fz m1
  | .sl i, s, m => (match s[i]? with | some (some (.own c)) => .ok c.fz m | _ => .bad)
def evPs : Ps → Sl → Mu → R (List D)
  | .nil, _, m => .ok [] m
  | .cons e r, s, m => (evP e s m).bind fun x m1 => (evPs r s m1).bind fun xs m2 => .ok (x :: xs) m2
def evO : O → Sl → Mu → R (Option Int)
  | .none, _, m => .ok none m
  | .some e, s, m => (evE e s m).bind fun x m1 => (match x.fz with | .int i => .ok (some i) m1 | _ => .bad)
def evOB : OB → Sl → Mu → R Bool
  | .none, _, m => .ok true m
  | .some b, s, m => evB b s m
def evB : B → Sl → Mu → R Bool
  | .e e, s, m => (evP e s m).bind fun x m1 => (match truthD (seeD m1 x) with | some b => .ok b m1 | none => .bad)
  | .cmp o a b, s, m => (evP a s m).bind fun x m1 => (evP b s m1).bind fun y m2 => (opC o (seeD m2 x) (seeD m2 y) m2).bind fun r m3 => (match r.fz with | .bl k => .ok k m3 | _ => .bad)
  | .chn o p a b c, s, m => (evE a s m).bind fun x m1 => (evE b s m1).bind fun y m2 => (opC o x.fz y.fz m2).bind fun r m3 => (match r.fz with
    | .bl true => (evE c s m3).bind fun z m4 => (opC p y.fz z.fz m4).bind fun q m5 => (match q.fz with | .bl k => .ok k m5 | _ => .bad)
    | .bl false => .ok false m3
    | _ => .bad)
  | .not b, s, m => (evB b s m).bind fun t m1 => .ok (!t) m1
  | .and bs, s, m => evBand bs s m
  | .or bs, s, m => evBor bs s m
  | .inm neg a o ks, s, m => (evE a s m).bind fun x m1 => (evE o s m1).bind fun y m2 => (match seeD m2 y.fz with
    | .ins c _ _ => (match ks.lookup c with
      | some k => (cf k [y.fz, x.fz] m2).bindN fun r m3 => (match r.fz with
        | .bl b => .ok (if neg = true then !b else b) m3
        | _ => .bad)
      | none => .bad)
    | _ => .bad)
def evBand : Bs → Sl → Mu → R Bool
  | .nil, _, m => .ok true m
  | .cons b r, s, m => (evB b s m).bind fun t m1 => if t = true then evBand r s m1 else .ok false m1
def evBor : Bs → Sl → Mu → R Bool
  | .nil, _, m => .ok false m
  | .cons b r, s, m => (evB b s m).bind fun t m1 => if t = true then .ok true m1 else evBor r s m1
/-- the values of a written and, or: all but the last are truth values -/
def evAnd : Es → Sl → Mu → R SV
  | .nil, _, _ => .bad
  | .cons a r, s, m => (match r with
    | .nil => evE a s m
    | .cons _ _ => (evE a s m).bind fun x m1 => (match x.fz with | .bl true => evAnd r s m1 | .bl false => .ok (.val (.bl false)) m1 | _ => .bad))
def evOr : Es → Sl → Mu → R SV
  | .nil, _, _ => .bad
  | .cons a r, s, m => (match r with
    | .nil => evE a s m
    | .cons _ _ => (evE a s m).bind fun x m1 => (match x.fz with | .bl true => .ok (.val (.bl true)) m1 | .bl false => evOr r s m1 | _ => .bad))
def evI : I → Sl → Mu → R (List D)
  | .seq p, s, m => (evE p s m).bind fun x m1 => (match x.fz with
    | .lst ds => .ok ds m1
    | .tup ds => .ok ds m1
    | .seq ds => .ok ds m1
    | .gl _ => .ok [] m1
    | _ => .bad)
  | .rng1 a, s, m => (evE a s m).bind fun x m1 => (match x.fz with
    | .int n => guardR (r62 n) (.ok ((List.range n.toNat).map fun i => D.int (i : Nat)) m1)
    | _ => .bad)
  | .rng2 a b, s, m => (evE a s m).bind fun x m1 => (evE b s m1).bind fun y m2 => (match x.fz, y.fz with
    | .int l, .int h => guardR (r62 l && r62 h) (.ok ((List.range (h - l).toNat).map fun i => D.int (l + (i : Nat))) m2)
    | _, _ => .bad)
  | .enum p, s, m => (evE p s m).bind fun x m1 => (match x.fz with
    | .lst ds => .ok (((List.range ds.length).zip ds).map fun q => .tup [.int (q.1 : Nat), q.2]) m1
    | .tup ds => .ok (((List.range ds.length).zip ds).map fun q => .tup [.int (q.1 : Nat), q.2]) m1
    | .gl _ => .ok [] m1
    | _ => .bad)
  | .zip p q, s, m => (evE p s m).bind fun x m1 => (evE q s m1).bind fun y m2 => (match x.fz, y.fz with
    | .lst a, .lst b => .ok ((a.zip b).map fun q => .tup [q.1, q.2]) m2
    | .tup a, .tup b => .ok ((a.zip b).map fun q => .tup [q.1, q.2]) m2
    | _, _ => .bad)
  | .rev p, s, m => (evE p s m).bind fun x m1 => (match x.fz with
    | .lst ds => .ok ds.reverse m1
    | .tup ds => .ok ds.reverse m1
    | _ => .bad)
  | .revr a, s, m => (evE a s m).bind fun x m1 => (match x.fz with
    | .int n => guardR (r62 n) (.ok ((List.range n.toNat).map fun i => D.int (n - 1 - (i : Nat))) m1)
    | _ => .bad)
end
end

/-! ### reading statements -/
inductive SR where
  | nx (s : Sl) (m : Mu) | rt (v : SV) (m : Mu) | bk (s : Sl) (m : Mu) | ct (s : Sl) (m : Mu) | ex (x : Exn) (s : Sl) (m : Mu) | bad
def SR.then_ (r : SR) (f : Sl → Mu → SR) : SR := match r with
  | .nx s m => f s m
  | .rt v m => .rt v m
  | .bk s m => .bk s m
  | .ct s m => .ct s m
  | .ex x s m => .ex x s m
  | .bad => .bad
/-- an expression's outcome within a statement -/
def R.st {α : Type} (r : R α) (s : Sl) (f : α → Mu → SR) : SR := match r with
  | .ok a m => f a m
  | .ex x m => .ex x s m
  | .bad => .bad
def forL (fg : List Nat) (body : D → Sl → Mu → SR) : List D → Sl → Mu → SR
  | [], s, m => .nx s m
  | d :: ds, s, m => (match body d s m with
    | .nx s1 m1 => forL fg body ds (wipeS s1 fg) m1
    | .ct s1 m1 => forL fg body ds (wipeS s1 fg) m1
    | .bk s1 m1 => .nx (wipeS s1 fg) m1
    | .rt v m1 => .rt v m1
    | .ex x s1 m1 => .ex x s1 m1
    | .bad => .bad)
def whlL (fg : List Nat) (c : Sl → Mu → R Bool) (body : Sl → Mu → SR) : Nat → Sl → Mu → SR
  | 0, _, _ => .bad
  | n + 1, s, m => (c s m).st s fun t m1 => if t = true then (match body s m1 with
    | .nx s1 m2 => whlL fg c body n (wipeS s1 fg) m2
    | .ct s1 m2 => whlL fg c body n (wipeS s1 fg) m2
    | .bk s1 m2 => .nx (wipeS s1 fg) m2
    | .rt v m2 => .rt v m2
    | .ex x s1 m2 => .ex x s1 m2
    | .bad => .bad) else .nx s m1
/-- a container is changed: its new content, what the method answers -/
def opM : OM → Cell → List D → Option (Cell × D)
  | .append, .lst ds, [d] => if ds.length < sizeLine then some (.lst (ds ++ [d]), .non) else none
  | .insert, .lst ds, [.int i, d] => if ds.length < sizeLine ∧ r63 i = true then some (.lst (ds.take i.toNat ++ [d] ++ ds.drop i.toNat), .non) else none
  | .pop, .lst ds, [] => (match ds[ds.length - 1]? with | some d => some (.lst ds.dropLast, d) | none => none)
  | .popAt, .lst ds, [.int i] => if rs63 i = true then (match seqIndex? i ds.length with
    | some k => (match ds[k]? with | some d => some (.lst (ds.eraseIdx k), d) | none => none)
    | none => none) else none
  | .reverse, .lst ds, [] => some (.lst ds.reverse, .non)
  | .clear, .lst _, [] => some (.lst [], .non)
  | _, _, _ => none
def opSet : Cell → D → D → Option Cell
  | .lst ds, .int i, d => (match ixN ds.length i with | some j => some (.lst (ds.set j d)) | none => none)
  | .dk ks ds, .int i, d => if ks.length < sizeLine then some (.dk (putKN (.inl i) ks) (putKD (.inl i) d ks ds)) else none
  | .dk ks ds, .str i, d => if ks.length < sizeLine then some (.dk (putKN (.inr i) ks) (putKD (.inr i) d ks ds)) else none
  | .dt ks ds, .tup y, d => (match keysD y with | some k => if ks.length < sizeLine then some (.dt (putKN k ks) (putKD k d ks ds)) else none | none => none)
  | _, _, _ => none
def opFld (flds : List (Str × List Str)) (f : Str) (d : D) : Cell → Option Cell
  | .ins c ns ds => (match flds.lookup c with
    | some fl => if f ∈ fl ∧ ns.length < 1000 then some (.ins c (putFN f ns) (putFD f d ns ds)) else none
    | none => none)
  | _ => none
/-- the container at a slot (one's own, or a shared one) is changed -/
def chg {α : Type} (i : Nat) (s : Sl) (m : Mu) (f : Cell → Option (Cell × α)) (k : α → Sl → Mu → SR) : SR := match s[i]? with
  | some (some (.own c)) => (match f c with | some (c', a) => k a (s.set i (some (.own c'))) m | none => .bad)
  | some (some (.val (.ref j))) => (match m[j]? with
    | some c => (match f c with | some (c', a) => k a s (m.set j c') | none => .bad)
    | none => .bad)
  | _ => .bad
/-- at the slot stands a list of one's own -/
def isL (s : Sl) (i : Nat) : Bool := match s[i]? with
  | some (some (.own (.lst _))) => true
  | _ => false
/-- at the slot stands a container of one's own -/
def isO (s : Sl) (i : Nat) : Bool := match s[i]? with
  | some (some (.own _)) => true
  | _ => false
def chgO {α : Type} (i : Nat) (s : Sl) (m : Mu) (f : Cell → Option (Cell × α)) (k : α → Sl → Mu → SR) : SR := match s[i]? with
  | some (some (.own c)) => (match f c with | some (c', a) => k a (s.set i (some (.own c'))) m | none => .bad)
  | _ => .bad
def hiV (x : Exn) (c : Str) : HI → Option D
  | .str y => some (.str y)
  | .int n => some (.int n)
  | .fld f => if x.c = c then (x.ns.zip x.ds).lookup f else none
def hiL (x : Exn) (c : Str) : List HI → Option (List D)
  | [] => some []
  | i :: l => (hiV x c i).bind fun d => (hiL x c l).map fun ds => d :: ds
def nmOk (h : Hc) (s : Sl) : Bool := match h.nm with
  | some i => decide (i < s.length)
  | none => true
/-- a clause's name goes -/
def offS (n : Option Nat) (s : Sl) : Sl := match n with
  | some i => s.set i none
  | none => s
/-- the clauses, one after the other -/
def hdS (G : Prog) (x : Exn) : List Hc → Sl → Mu → SR
  | [], s, m => .ex x s m
  | h :: hs, s, m => (match G.exm.lookup (x.c, h.cls) with
    | some true => if nmOk h s = true then (match h.su with
      | .retL l => (match hiL x h.cls l with
        | some ds => if ds.length ≤ sizeLine then .rt (.own (.lst ds)) m else .bad
        | none => .bad)
      | .retB b => .rt (.val (.bl b)) m
      | .asgL t l => (match hiL x h.cls l with
        | some ds => if ds.length ≤ sizeLine ∧ some t ≠ h.nm then .nx (offS h.nm (s.set t (some (.own (.lst ds))))) m else .bad
        | none => .bad)) else .bad
    | some false => hdS G x hs s m
    | none => .bad)
noncomputable section
variable (G : Prog) (cf : Nat → List D → Mu → R SV)
mutual
def evS : S → Sl → Mu → SR
  | .ex e, s, m => (evE G cf e s m).st s fun _ m1 => .nx s m1
  | .rse c e, s, m => (evE G cf e s m).st s fun x m1 => (match G.exs.lookup c with | some f => .ex ⟨c, [f], [x.fz]⟩ s m1 | none => .bad)
  | .try_ b hs, s, m => (match evSs b s m with
    | .ex x s1 m1 => hdS G x hs s1 m1
    | .nx s1 m1 => .nx s1 m1
    | .rt v m1 => .rt v m1
    | .bk s1 m1 => .bk s1 m1
    | .ct s1 m1 => .ct s1 m1
    | .bad => .bad)
  | .mov i j, s, m => if i = j then .bad else (match s[j]? with | some (some (.own c)) => .nx ((s.set j none).set i (some (.own c))) m | _ => .bad)
  | .asg t e, s, m => (evE G cf e s m).st s fun x m1 => (match bindT s t x.fz with | some s1 => .nx s1 m1 | none => .bad)
  | .asgO i e, s, m => (evE G cf e s m).st s fun x m1 => (match x with | .own c => .nx (s.set i (some (.own c))) m1 | _ => .bad)
  | .asgM i e, s, m => (evE G cf e s m).st s fun x m1 => (match x with | .own c => .nx (s.set i (some (.val (.ref m1.length)))) (m1 ++ [c]) | _ => .bad)
  | .aug i o e, s, m => (match s[i]? with
    | some (some (.val (.int a))) => (evE G cf e s m).st s fun y m1 => (match o, y.fz with
      | .add, .int b => .nx (s.set i (some (.val (.int (a + b))))) m1
      | .sub, .int b => .nx (s.set i (some (.val (.int (a - b))))) m1
      | _, _ => .bad)
    | _ => .bad)
  | .om i f es, s, m => if isL s i = true then (evEs G cf es s m).st s fun ds m1 => chgO i s m1 (fun c => opM f c ds) fun _ s1 m2 => .nx s1 m2 else .bad
  | .omr t i f es, s, m => if isL s i = true then (evEs G cf es s m).st s fun ds m1 => chgO i s m1 (fun c => opM f c ds) fun d s1 m2 => .nx (s1.set t (some (.val d))) m2 else .bad
  | .seti i a e, s, m => if isO s i = true then (evE G cf e s m).st s fun x m1 => (evE G cf a s m1).st s fun y m2 => chgO i s m2 (fun c => (opSet c y.fz x.fz).map fun c' => (c', ())) fun _ s1 m3 => .nx s1 m3 else .bad
  | .setf i f e, s, m => (evE G cf e s m).st s fun x m1 => chg i s m1 (fun c => (opFld G.flds f x.fz c).map fun c' => (c', ())) fun _ s1 m2 => .nx s1 m2
  | .augs i o a e, s, m => if isL s i = true then (evE G cf a s m).st s fun y m1 => (match s[i]?, y.fz with
    | some (some (.own (.lst ds))), .int j => (match atI ds j with
      | some (.int x) => (evE G cf e s m1).st s fun z m2 => (match o, z.fz with
        | .add, .int w => chgO i s m2 (fun c => (opSet c (.int j) (.int (x + w))).map fun c' => (c', ())) fun _ s1 m3 => .nx s1 m3
        | .sub, .int w => chgO i s m2 (fun c => (opSet c (.int j) (.int (x - w))).map fun c' => (c', ())) fun _ s1 m3 => .nx s1 m3
        | _, _ => .bad)
      | _ => .bad)
    | _, _ => .bad) else .bad
  | .ret e, s, m => (evE G cf e s m).st s fun x m1 => .rt x m1
  | .retS i, s, m => (match s[i]? with | some (some (.own c)) => .rt (.own c) m | _ => .bad)
  | .retN, _, m => .rt (.val .non) m
  | .ife c a b, s, m => (evB G cf c s m).st s fun t m1 => if t = true then evSs a s m1 else evSs b s m1
  | .for_ t it body fg, s, m => (evI G cf it s m).st s fun ds m1 => forL fg (fun d s1 m2 => match bindT s1 t d with | some s2 => evSs body s2 m2 | none => .bad) ds s m1
  | .whl n c body fg, s, m => whlL fg (fun s m => evB G cf c s m) (fun s m => evSs body s m) n s m
  | .pass, s, m => .nx s m
  | .brk, s, m => .bk s m
  | .cont, s, m => .ct s m
  | .never, _, _ => .bad
  | .gfz i, s, m => (match s[i]? with | some (some (.own c)) => .nx (s.set i (some (.val c.fz))) m | _ => .bad)
  | .gfg is, s, m => .nx (wipeS s is) m
def evSs : Ss → Sl → Mu → SR
  | .nil, s, m => .nx s m
  | .cons st r, s, m => (evS st s m).then_ fun s1 m1 => evSs r s1 m1
end
end
def SR.back : SR → R SV
  | .nx _ m => .ok (.val .non) m
  | .rt v m => .ok v m
  | .ex x _ m => .ex x m
  | _ => .bad
def fill (f : Fn) (ds : List D) : List D := ds ++ f.dfl.drop (ds.length + f.dfl.length - f.ps.length)
def start0 (f : Fn) (ds : List D) : Sl := ds.map (fun d => some (.val d)) ++ List.replicate (f.N.length - ds.length) none
noncomputable def callN (G : Prog) : Nat → Nat → List D → Mu → R SV
  | 0, _, _, _ => .bad
  | n + 1, k, ds, m => (match G.fns[k]? with
    | some f => if (fill f ds).length = f.ps.length then (evSs G (callN G n) f.body (start0 f (fill f ds)) m).back else .bad
    | none => .bad)
end Dp
end

section
set_option Elab.async false
set_option linter.all false
set_option maxRecDepth 100000
set_option maxHeartbeats 1000000
/-! The deep layer, part 4: the rules of expressions. -/
namespace Dp
open PySem PySem.Spec PyProof.Rows L2

/-- an operand that is read -/
def VwAt (K : PySem.W.Frag) (mg : Str → Option Value) (W' : Wd) (_ H' : Hp) (d : D) (v : V) : Prop := Rep K mg W' d v ∨ ∃ (c : Cell) (a : Addr), d = c.fz ∧ v = V.ref a ∧ Own K mg W' H' a c
inductive VwsAt (K : PySem.W.Frag) (mg : Str → Option Value) (W' : Wd) (H H' : Hp) : List D → List V → Prop where
  | nil : VwsAt K mg W' H H' [] []
  | cons {d : D} {v : V} {ds : List D} {vs : List V} : VwAt K mg W' H H' d v → VwsAt K mg W' H H' ds vs → VwsAt K mg W' H H' (d :: ds) (v :: vs)
/-- .. with the shared cells seen -/
def Vw (K : PySem.W.Frag) (mg : Str → Option Value) (W : Wd) (H : Hp) (d : D) (v : V) : Prop := Rep K mg W d v ∨ ∃ (c : Cell) (a : Addr), d = c.fz ∧ v = V.ref a ∧ CellAt K mg W H a c
section
variable {K : PySem.W.Frag} {mg : Str → Option Value} {W W2 : Wd} {H H0 H1 H2 : Hp} {d : D} {v : V} {m : Mu}
theorem VwAt.step (h : VwAt K mg W H0 H d v) (p : Step W H W2 H2) : VwAt K mg W2 H1 H2 d v := by
  rcases h with h | ⟨c, a, e1, e2, o⟩
  · exact .inl (Rep.mono p.le d v h)
  · exact .inr ⟨c, a, e1, e2, o.step p⟩
theorem VwsAt.step {ds : List D} {vs : List V} (h : VwsAt K mg W H0 H ds vs) (p : Step W H W2 H2) : VwsAt K mg W2 H1 H2 ds vs := by
  induction h with
  | nil => exact .nil
  | cons h _ ih => exact .cons (h.step p) ih
theorem VwsAt.any {ds : List D} {vs : List V} (h : VwsAt K mg W H0 H ds vs) : VwsAt K mg W H1 H ds vs := by
  induction h with
  | nil => exact .nil
  | cons h _ ih => exact .cons h ih
theorem rb_vw : Rb K mg (VwAt K mg) := fun _ _ _ _ _ _ _ _ _ _ _ _ h => h
theorem rb_vws : Rb K mg (VwsAt K mg) := fun W H W1 H1 m1 W' H' a b x1 p q h => by
  induction h with
  | nil => exact .nil
  | cons h _ ih => exact .cons h ih
theorem see_fz (m : Mu) (c : Cell) : seeD m c.fz = c.fz := by cases c <;> rfl
theorem see (x : St0 K mg W m H) (h : VwAt K mg W H0 H d v) : Vw K mg W H (seeD m d) v := by
  rcases h with h | ⟨c, a, rfl, e2, o⟩
  · cases d with
    | ref i =>
      obtain ⟨a, e, ha⟩ := h
      have hi : i < m.length := by rw [← x.len]; exact (List.getElem?_eq_some_iff.mp ha).1
      show Vw K mg W H (match m[i]? with | some c => c.fz | none => .ref i) v
      rw [List.getElem?_eq_getElem hi]
      exact .inr ⟨m[i], a, rfl, e, x.cell i a m[i] ha (List.getElem?_eq_getElem hi)⟩
    | _ => exact .inl h
  · rw [see_fz]
    exact .inr ⟨c, a, rfl, e2, o.at_⟩
theorem see_rep (x : St0 K mg W m H) (h : Rep K mg W d v) : Vw K mg W H (seeD m d) v := see (H0 := H) x (.inl h)
theorem Vw.rep (h : Rep K mg W d v) : Vw K mg W H d v := .inl h
theorem Vw.int {i : Int} (h : Vw K mg W H (.int i) v) : v = .int i := by
  rcases h with h | ⟨c, a, e, _⟩
  · exact h
  · cases c <;> cases e
theorem Vw.bl {i : Bool} (h : Vw K mg W H (.bl i) v) : v = .bl i := by
  rcases h with h | ⟨c, a, e, _⟩
  · exact h
  · cases c <;> cases e
theorem Vw.str {i : Str} (h : Vw K mg W H (.str i) v) : v = .str i := by
  rcases h with h | ⟨c, a, e, _⟩
  · exact h
  · cases c <;> cases e
theorem Vw.non (h : Vw K mg W H .non v) : v = .non := by
  rcases h with h | ⟨c, a, e, _⟩
  · exact h
  · cases c <;> cases e
theorem Vw.tup {ds : List D} (x : Same W.Hf H) (h : Vw K mg W H (.tup ds) v) : ∃ a vs, v = .ref a ∧ SqT K H a vs ∧ Reps K mg W ds vs := by
  rcases h with ⟨a, vs, e, h, r⟩ | ⟨c, a, e, _⟩
  · exact ⟨a, vs, e, SqT.of (x _ _ h), r⟩
  · cases c <;> cases e
theorem Vw.tupR {ds : List D} (h : Vw K mg W H (.tup ds) v) : Rep K mg W (.tup ds) v := by
  rcases h with h | ⟨c, a, e, _⟩
  · exact h
  · cases c <;> cases e
theorem Vw.seq {ds : List D} (x : Same W.Hf H) (h : Vw K mg W H (.seq ds) v) : ∃ a vs, v = .ref a ∧ SqL K H a vs ∧ Reps K mg W ds vs := by
  rcases h with ⟨a, vs, e, h, r⟩ | ⟨c, a, e, _⟩
  · exact ⟨a, vs, e, x.seq h, r⟩
  · cases c <;> cases e
theorem Vw.lst {ds : List D} (x : Same W.Hf H) (h : Vw K mg W H (.lst ds) v) : ∃ a vs, v = .ref a ∧ H a = some (.lst vs) ∧ Reps K mg W ds vs := by
  rcases h with ⟨a, vs, e, h, r⟩ | ⟨c, a, e, e2, o⟩
  · exact ⟨a, vs, e, x _ _ h, r⟩
  · cases c <;> cases e
    obtain ⟨vs, e3, r⟩ := o
    exact ⟨a, vs, e2, e3, r⟩
theorem Vw.dk {ks : List Key} {ds : List D} (x : Same W.Hf H) (h : Vw K mg W H (.dk ks ds) v) : ∃ a vs, v = .ref a ∧ H a = some (.dK (ks.zip vs)) ∧ ks.length = ds.length ∧ Reps K mg W ds vs := by
  rcases h with ⟨a, vs, e, h, n, r⟩ | ⟨c, a, e, e2, o⟩
  · exact ⟨a, vs, e, x _ _ h, n, r⟩
  · cases c <;> cases e
    obtain ⟨vs, e3, n, r⟩ := o
    exact ⟨a, vs, e2, e3, n, r⟩
theorem Vw.dt {ks : List (List Key)} {ds : List D} (x : Same W.Hf H) (h : Vw K mg W H (.dt ks ds) v) : ∃ a vs, v = .ref a ∧ Rd H a (.dT (ks.zip vs)) ∧ ks.length = ds.length ∧ Reps K mg W ds vs := by
  rcases h with ⟨a, vs, e, h, n, r⟩ | ⟨c, a, e, e2, o⟩
  · exact ⟨a, vs, e, rd_same x h, n, r⟩
  · cases c <;> cases e
    obtain ⟨vs, e3, n, r⟩ := o
    exact ⟨a, vs, e2, .inl e3, n, r⟩
theorem Vw.ins {c : Str} {ns : List Str} {ds : List D} (x : Same W.Hf H) (h : Vw K mg W H (.ins c ns ds) v) : ∃ a dx vs, v = .ref a ∧ H a = some (.ins (He.ga K c) dx (ns.zip vs)) ∧ ns.length = ds.length ∧ Reps K mg W ds vs := by
  rcases h with ⟨a, dx, vs, e, h, n, r⟩ | ⟨c, a, e, e2, o⟩
  · exact ⟨a, dx, vs, e, x _ _ h, n, r⟩
  · cases c <;> cases e
    obtain ⟨dx, vs, e3, n, r⟩ := o
    exact ⟨a, dx, vs, e2, e3, n, r⟩
end

section
variable {X : Cx} {Wx : WX}
abbrev tS (X : Cx) (Wx : WX) (f : Sl → Mu → R SV) : TE := tG X.K X.mg (SvAt X.K X.mg) Wx f
abbrev tP (X : Cx) (Wx : WX) (f : Sl → Mu → R D) : TE := tG X.K X.mg (VwAt X.K X.mg) Wx f
abbrev tL (X : Cx) (Wx : WX) (f : Sl → Mu → R (List D)) : TA := tG X.K X.mg (LsAt X.K X.mg) Wx f
abbrev tLP (X : Cx) (Wx : WX) (f : Sl → Mu → R (List D)) : TA := tG X.K X.mg (VwsAt X.K X.mg) Wx f
abbrev tT (X : Cx) (Wx : WX) (f : Sl → Mu → R Bool) : TT := tG X.K X.mg (fun W H H' => BlAt W H H') Wx f
theorem pe_imp {e : Expr} {t t' : TE} (h : PE X e t) (i : ∀ σ H Q, t' σ H Q → t σ H Q) : PE X e t' := ⟨fun pins s σ H Q I hw => h.run pins s σ H Q I (i _ _ _ hw)⟩
theorem pt_imp {e : Expr} {t t' : TT} (h : PT X e t) (i : ∀ σ H Q, t' σ H Q → t σ H Q) : PT X e t' := ⟨fun pins s σ H Q I hw => h.run pins s σ H Q I (i _ _ _ hw)⟩
theorem pw_imp {e : Expr} {t t' : TT} (h : PW X e t) (i : ∀ σ H Q, t' σ H Q → t σ H Q) : PW X e t' := ⟨fun wh pins s σ H Q I hw => h.run wh pins s σ H Q I (i _ _ _ hw)⟩
theorem pa_imp {e : List Expr} {t t' : TA} (h : PA X e t) (i : ∀ σ H Q, t' σ H Q → t σ H Q) : PA X e t' := ⟨fun pos pins s σ H Q I hw => h.run pos pins s σ H Q I (i _ _ _ hw)⟩
theorem ps_imp {e : Stmt} {t t' : TS} (h : PS X e t) (i : ∀ D σ H, t' D σ H → t D σ H) : PS X e t' := ⟨fun pins s σ H Q I hw => h.run pins s σ H Q I (i _ _ _ hw)⟩

/-! ### constants and names -/
theorem de_c {e : Expr} {v : V} {d : D} (h : PE X e (tC v)) (r : ∀ W : Wd, Rep X.K X.mg W d v) : PE X e (tS X Wx fun _ m => .ok (.val d) m) :=
  pe_imp h fun σ H Q ⟨W, s, m, hs, o⟩ => o.fin hs.toSt0 (r W)
theorem de_var {i : Nat} {x : Str} {pos : Pos} (h : PE X (.Name x pos) (tVar i)) : PE X (.Name x pos) (tS X Wx fun s m => match s[i]? with | some (some (.val d)) => .ok (.val d) m | _ => .bad) := by
  refine pe_imp h fun σ H Q ⟨W, s, m, hs, o⟩ => ?_
  revert o
  dsimp only
  split
  · rename_i d e
    intro o
    obtain ⟨v, e1, r⟩ := hs.slot i d e
    exact ⟨v, e1, o.fin hs.toSt0 r⟩
  · exact fun o => o.elim
/-- a container of one's own is read -/
theorem dp_sl {i : Nat} {x : Str} {pos : Pos} (h : PE X (.Name x pos) (tVar i)) : PE X (.Name x pos) (tP X Wx fun s m => match s[i]? with | some (some (.own c)) => .ok c.fz m | _ => .bad) := by
  refine pe_imp h fun σ H Q ⟨W, s, m, hs, o⟩ => ?_
  revert o
  dsimp only
  split
  · rename_i c e
    intro o
    obtain ⟨a, e1, r⟩ := hs.own i c e
    exact ⟨_, e1, o.fin hs.toSt0 (.inr ⟨c, a, rfl, rfl, r⟩)⟩
  · exact fun o => o.elim
theorem dp_e {e : Expr} {f : Sl → Mu → R SV} (h : PE X e (tS X Wx f)) : PE X e (tP X Wx fun s m => (f s m).bind fun x m1 => .ok x.fz m1) :=
  pe_imp h fun σ H Q ⟨W, s, m, hs, o⟩ => runz rb_vw hs o fun a m1 W1 v H1 h1 p1 r o1 => o1.fin h1.toSt0 (.inl r)

/-! ### operators -/
def boOp : BO → Operator
  | .add => .Add | .sub => .Sub | .mul => .Mult | .fdiv => .FloorDiv | .mod => .Mod | .pow => .Pow | .band => .BitAnd
/-- what is to be shown of an operator by values -/
def OpOk (X : Cx) (Wx : WX) (f : Value → Value → Sem Value) (g : D → D → Mu → R SV) : Prop :=
  ∃ r : R2, OpR X f r ∧ ∀ (W : Wd) (m : Mu) (σ : L2.St) (H : Hp) (Q : VK) (x y : D) (v u : V), St0 X.K X.mg W m H → Vw X.K X.mg W H x v → Vw X.K X.mg W H y u → OutG X.K X.mg (SvAt X.K X.mg) Wx W H σ (g x y m) Q → r v u H Q
theorem guard_t {α : Type} {b : Bool} {r : R α} {A : Wd → Hp → Hp → α → V → Prop} {K : PySem.W.Frag} {mg : Str → Option Value} {W : Wd} {H : Hp} {σ : L2.St} {Q : VK} (o : OutG K mg A Wx W H σ (guardR b r) Q) : b = true ∧ OutG K mg A Wx W H σ r Q := by
  cases b with
  | true => exact ⟨rfl, o⟩
  | false => exact o.elim
theorem tup_new {K : PySem.W.Frag} {mg : Str → Option Value} {W : Wd} {m : Mu} {σ : L2.St} {H : Hp} {Q : VK} {ds : List D} {vs : List V} (x : St0 K mg W m H) (r : Reps K mg W ds vs)
    (o : OutG K mg (SvAt K mg) Wx W H σ (.ok (.val (.tup ds)) m) Q) : ∀ p, H p = none → Q (.ref p) (upd H p (.tup vs)) := fun p hp => by
  obtain ⟨x2, p2⟩ := x.laid hp (.tup vs)
  exact o.fin2 x2 p2 ⟨p, vs, rfl, upd_same, Reps.mono p2.le _ _ r⟩
theorem own_new {K : PySem.W.Frag} {mg : Str → Option Value} {W : Wd} {m : Mu} {σ : L2.St} {H : Hp} {Q : VK} {c : Cell} {u : HO} (x : St0 K mg W m H) (r : ∀ p, CellAt K mg W (upd H p u) p c)
    (o : OutG K mg (SvAt K mg) Wx W H σ (.ok (.own c) m) Q) : ∀ p, H p = none → Q (.ref p) (upd H p u) := fun p hp => by
  obtain ⟨x2, p2, n1, n2⟩ := x.made hp u
  exact o.fin2 x2 p2 ⟨p, rfl, ⟨r p, n1, n2⟩, hp⟩
theorem reps_nil {K : PySem.W.Frag} {mg : Str → Option Value} {W : Wd} {ds : List D} (r : Reps K mg W ds []) : ds = [] := by
  cases ds with
  | nil => rfl
  | cons d ds => obtain ⟨v, t, e, _⟩ := r; cases e
theorem reps_rep {K : PySem.W.Frag} {mg : Str → Option Value} {W : Wd} {ds : List D} {vs : List V} (r : Reps K mg W ds vs) : ∀ n : Nat, Reps K mg W (List.replicate n ds).flatten (List.replicate n vs).flatten
  | 0 => Reps.nil
  | n + 1 => by
    rw [List.replicate_succ, List.replicate_succ, List.flatten_cons, List.flatten_cons]
    exact r.append (reps_rep r n)
theorem opB_ok (o : BO) : OpOk X Wx (binaryOp (boOp o)) (opB o) := by
  cases o with
  | add =>
    refine ⟨_, op_add.or (op_catA.or (op_cat.or op_add_str)), fun W m σ H Q x y v u st hx hy o => ?_⟩
    cases x <;> cases y <;> try exact o.elim
    · exact .inl ⟨_, _, hx.int, hy.int, o.fin st rfl⟩
    · obtain ⟨g, o⟩ := guard_t o
      exact .inr (.inr (.inr ⟨_, _, hx.str, hy.str, of_decide_eq_true g, o.fin st rfl⟩))
    · obtain ⟨g, o⟩ := guard_t o
      have g := of_decide_eq_true g
      have hx' := hx.tupR
      have hy' := hy.tupR
      obtain ⟨a, vs, rfl, ha, ra⟩ := hx.tup st.sub
      obtain ⟨b, us, rfl, hb, rb⟩ := hy.tup st.sub
      rw [ra.length, rb.length] at g
      refine .inr (.inl ⟨a, b, vs, us, rfl, rfl, ha, hb, g, fun e => ?_, fun _ e => ?_, fun _ _ => ?_⟩)
      · subst e
        rw [reps_nil ra, List.nil_append] at o
        exact o.fin st hy'
      · subst e
        rw [reps_nil rb, List.append_nil] at o
        exact o.fin st hx'
      · exact tup_new st (ra.append rb) o
    · obtain ⟨g, o⟩ := guard_t o
      obtain ⟨a, vs, rfl, ha, ra⟩ := hx.lst st.sub
      obtain ⟨b, us, rfl, hb, rb⟩ := hy.lst st.sub
      have g := of_decide_eq_true g
      rw [ra.length, rb.length] at g
      exact .inr (.inr (.inl ⟨a, b, vs, us, rfl, rfl, ha, hb, g, own_new (c := .lst _) st (fun p => ⟨_, upd_same, ra.append rb⟩) o⟩))
  | sub =>
    refine ⟨_, op_sub, fun W m σ H Q x y v u st hx hy o => ?_⟩
    cases x <;> cases y <;> try exact o.elim
    exact ⟨_, _, hx.int, hy.int, o.fin st rfl⟩
  | mul =>
    refine ⟨_, op_mul.or (op_rep.or (op_repT.or op_repS)), fun W m σ H Q x y v u st hx hy o => ?_⟩
    cases x <;> cases y <;> try exact o.elim
    · obtain ⟨g, o⟩ := guard_t o
      refine .inl ⟨_, _, hx.int, hy.int, ?_, o.fin st rfl⟩
      unfold small64 at g
      simp only [Bool.or_eq_true, Bool.and_eq_true, decide_eq_true_eq] at g
      exact g
    · obtain ⟨g, o⟩ := guard_t o
      have hx0 := hx.tupR
      obtain ⟨a, vs, rfl, ha, ra⟩ := hx.tup st.sub
      unfold tmOk at g
      simp only [Bool.and_eq_true, Bool.or_eq_true, decide_eq_true_eq] at g
      obtain ⟨g0, g1⟩ := g
      obtain ⟨r1, r2⟩ := rs63_le g0
      refine .inr (.inr ?_)
      rename_i ds j _
      by_cases hE : vs = []
      · subst hE
        refine .inr ⟨a, _, [], rfl, hy.int, ha, r1, r2, .inl ⟨.inl rfl, ?_⟩⟩
        obtain rfl := reps_nil ra
        rw [show (List.replicate j.toNat ([] : List D)).flatten = [] by induction j.toNat with | zero => rfl | succ n ih => rw [List.replicate_succ, List.flatten_cons, ih]; rfl] at o
        exact o.fin st hx0
      · by_cases h1 : j = 1
        · subst h1
          refine .inr ⟨a, _, vs, rfl, hy.int, ha, r1, r2, .inl ⟨.inr rfl, ?_⟩⟩
          have o' : OutG X.K X.mg (SvAt X.K X.mg) Wx W H σ (.ok (.val (.tup (List.replicate 1 ds).flatten)) m) Q := o
          rw [show (List.replicate 1 ds).flatten = ds by simp] at o'
          exact o'.fin st hx0
        · by_cases h0 : j ≤ 1
          · refine .inr ⟨a, _, vs, rfl, hy.int, ha, r1, r2, .inr ⟨hE, by omega, ?_⟩⟩
            rw [show j.toNat = 0 by omega] at o
            exact tup_new st (reps_rep ra 0) o
          · refine .inl ⟨a, _, vs, rfl, hy.int, ha, hE, by omega, ?_, ?_, tup_new st (reps_rep ra _) o⟩
            · rcases g1 with g1 | g1 | g1
              · exact absurd g1 h0
              · exact absurd (by have := ra; rw [List.isEmpty_iff.mp g1] at this; exact this) hE
              · exact g1.1
            · rw [← ra.length]
              rcases g1 with g1 | g1 | g1
              · exact absurd g1 h0
              · rw [List.isEmpty_iff.mp g1]; exact Nat.zero_le _
              · exact g1.2
    · obtain ⟨g, o⟩ := guard_t o
      obtain ⟨a, vs, rfl, ha, ra⟩ := hx.lst st.sub
      simp only [Bool.and_eq_true, decide_eq_true_eq] at g
      obtain ⟨g1, g2, g3⟩ := g
      rw [ra.length] at g3
      exact .inr (.inl ⟨a, _, vs, rfl, hy.int, ha, g1, g2, g3, own_new (c := .lst _) st (fun p => ⟨_, upd_same, reps_rep ra _⟩) o⟩)
  | fdiv =>
    refine ⟨_, op_fdiv, fun W m σ H Q x y v u st hx hy o => ?_⟩
    cases x <;> cases y <;> try exact o.elim
    obtain ⟨g, o⟩ := guard_t o
    simp only [Bool.and_eq_true, decide_eq_true_eq] at g
    exact ⟨_, _, hx.int, hy.int, g, o.fin st rfl⟩
  | mod =>
    refine ⟨_, op_mod, fun W m σ H Q x y v u st hx hy o => ?_⟩
    cases x <;> cases y <;> try exact o.elim
    obtain ⟨g, o⟩ := guard_t o
    exact ⟨_, _, hx.int, hy.int, of_decide_eq_true g, o.fin st rfl⟩
  | pow =>
    refine ⟨_, op_pow, fun W m σ H Q x y v u st hx hy o => ?_⟩
    cases x <;> cases y <;> try exact o.elim
    obtain ⟨g, o⟩ := guard_t o
    simp only [Bool.and_eq_true, decide_eq_true_eq] at g
    exact ⟨_, _, hx.int, hy.int, g, o.fin st rfl⟩
  | band =>
    refine ⟨_, op_and, fun W m σ H Q x y v u st hx hy o => ?_⟩
    cases x <;> cases y <;> try exact o.elim
    exact ⟨_, _, hx.int, hy.int, o.fin st rfl⟩
theorem de_bin {o : BO} {a b : Expr} {pos : Pos} {fa fb : Sl → Mu → R D} (ha : PE X a (tP X Wx fa)) (hb : PE X b (tP X Wx fb)) :
    PE X (.BinOp a (boOp o) b pos) (tS X Wx fun s m => (fa s m).bind fun x m1 => (fb s m1).bind fun y m2 => opB o (seeD m2 x) (seeD m2 y) m2) := by
  obtain ⟨r, hr, hq⟩ := opB_ok (X := X) (Wx := Wx) o
  refine pe_imp (pe_op hr ha hb) fun σ H Q ⟨W, s, m, hs, o⟩ => ?_
  refine run rb_sv hs o fun x m1 W1 v H1 _ h1 p1 av o1 => ?_
  refine run rb_sv h1 o1 fun y m2 W2 u H2 _ h2 p2 bv o2 => ?_
  exact hq W2 m2 σ H2 Q _ _ v u h2.toSt0 (see (H0 := H1) h2.toSt0 (av.step p2)) (see h2.toSt0 bv) o2
end
end Dp
end

section
set_option Elab.async false
set_option linter.all false
set_option maxRecDepth 100000
set_option maxHeartbeats 1000000
/-! The deep layer, part 5: comparisons, tests, displays, subscripts, slices. -/
namespace Dp
open PySem PySem.Spec PyProof.Rows L2

/-! ### data as the library's -/
section
variable {K : PySem.W.Frag} {mg : Str → Option Value} {W : Wd} {H : Hp}
mutual
theorem rep_dp (x : Same W.Hf H) : ∀ (d : D) (v : V) (p : PyData), Rep K mg W d v → D.py d = some p → Dp K H v p
  | .non, _, _, h, e => by
    cases h
    cases e
    exact .non
  | .bl b, _, _, h, e => by
    cases h
    cases e
    exact .bl b
  | .int i, _, _, h, e => by
    cases h
    cases e
    exact .int i
  | .str z, _, _, h, e => by
    cases h
    cases e
    exact .str z
  | .tup ds, _, p, ⟨a, vs, e1, h, r⟩, e => by
    subst e1
    unfold D.py at e
    obtain ⟨ps, e2, e3⟩ := Option.map_eq_some_iff.mp e
    subst e3
    exact .tup (SqT.of (x _ _ h)) (reps_dp x ds vs ps r e2)
  | .lst ds, _, p, ⟨a, vs, e1, h, r⟩, e => by
    subst e1
    unfold D.py at e
    obtain ⟨ps, e2, e3⟩ := Option.map_eq_some_iff.mp e
    subst e3
    exact .lst (SqL.of (x _ _ h)) (reps_dp x ds vs ps r e2)
  | .seq ds, _, p, ⟨a, vs, e1, h, r⟩, e => by
    subst e1
    unfold D.py at e
    obtain ⟨ps, e2, e3⟩ := Option.map_eq_some_iff.mp e
    subst e3
    exact .lst (x.seq h) (reps_dp x ds vs ps r e2)
  | .dk _ _, _, _, _, e => by cases e
  | .dt _ _, _, _, _, e => by cases e
  | .ins _ _ _, _, _, _, e => by cases e
  | .ref _, _, _, _, e => by cases e
  | .gl _, _, _, _, e => by cases e
theorem reps_dp (x : Same W.Hf H) : ∀ (ds : List D) (vs : List V) (ps : List PyData), Reps K mg W ds vs → D.pys ds = some ps → DpAll K H vs ps
  | [], _, _, h, e => by
    cases h
    cases e
    exact .nil
  | d :: ds, _, ps, ⟨v, r, e1, h, t⟩, e => by
    subst e1
    unfold D.pys at e
    obtain ⟨q, e2, e3⟩ := Option.bind_eq_some_iff.mp e
    obtain ⟨qs, e4, e5⟩ := Option.map_eq_some_iff.mp e3
    subst e5
    exact .cons (rep_dp x d v q h e2) (reps_dp x ds r qs t e4)
end
theorem vw_dp {d : D} {v : V} {p : PyData} (x : Same W.Hf H) (h : Vw K mg W H d v) (e : D.py d = some p) : Dp K H v p := by
  rcases h with h | ⟨c, a, rfl, rfl, o⟩
  · exact rep_dp x d v p h e
  · cases c with
    | lst ds =>
      obtain ⟨vs, e3, r⟩ := o
      have e' : (D.pys ds).map PyData.list = some p := e
      obtain ⟨ps, e2, e4⟩ := Option.map_eq_some_iff.mp e'
      subst e4
      exact .lst (SqL.of e3) (reps_dp x ds vs ps r e2)
    | _ => cases e
theorem isNon_ok : ∀ {d : D}, isNon d = true → d = .non
  | .non, _ => rfl
theorem vw_non {d : D} {v : V} (h : Vw K mg W H d v) : decide (v = .non) = isNon d := by
  rcases h with h | ⟨c, a, rfl, rfl, o⟩
  · cases d with
    | non => cases h; rfl
    | bl b => cases h; rfl
    | int i => cases h; rfl
    | str i => cases h; rfl
    | ref i => obtain ⟨a, e, _⟩ := h; subst e; rfl
    | gl i => obtain ⟨a, e, _⟩ := h; subst e; rfl
    | cl i => cases h; rfl
    | ins _ _ _ => obtain ⟨a, dx, vs, e, _⟩ := h; subst e; rfl
    | tup _ => obtain ⟨a, vs, e, _⟩ := h; subst e; rfl
    | lst _ => obtain ⟨a, vs, e, _⟩ := h; subst e; rfl
    | seq _ => obtain ⟨a, vs, e, _⟩ := h; subst e; rfl
    | dk _ _ => obtain ⟨a, vs, e, _⟩ := h; subst e; rfl
    | dt _ _ => obtain ⟨a, vs, e, _⟩ := h; subst e; rfl
  · cases c <;> rfl
theorem nums_vals : ∀ {ds : List D} {vs : List V} {l : List Int}, Reps K mg W ds vs → D.nums ds = some l → vs = l.map V.int
  | [], _, _, h, e => by
    cases h
    cases e
    rfl
  | .int i :: ds, _, l, ⟨v, r, e1, h, t⟩, e => by
    unfold D.nums at e
    obtain ⟨q, e2, e3⟩ := Option.map_eq_some_iff.mp e
    subst e1 e3
    cases h
    rw [nums_vals t e2]
    rfl
  | .non :: _, _, _, _, e => by cases e
  | .bl _ :: _, _, _, _, e => by cases e
  | .str _ :: _, _, _, _, e => by cases e
  | .tup _ :: _, _, _, _, e => by cases e
  | .lst _ :: _, _, _, _, e => by cases e
  | .seq _ :: _, _, _, _, e => by cases e
  | .dk _ _ :: _, _, _, _, e => by cases e
  | .dt _ _ :: _, _, _, _, e => by cases e
  | .ins _ _ _ :: _, _, _, _, e => by cases e
  | .ref _ :: _, _, _, _, e => by cases e
  | .gl _ :: _, _, _, _, e => by cases e
theorem bls_vals : ∀ {ds : List D} {vs : List V} {l : List Bool}, Reps K mg W ds vs → D.bls ds = some l → vs = l.map V.bl
  | [], _, _, h, e => by
    cases h
    cases e
    rfl
  | .bl i :: ds, _, l, ⟨v, r, e1, h, t⟩, e => by
    unfold D.bls at e
    obtain ⟨q, e2, e3⟩ := Option.map_eq_some_iff.mp e
    subst e1 e3
    cases h
    rw [bls_vals t e2]
    rfl
  | .non :: _, _, _, _, e => by cases e
  | .int _ :: _, _, _, _, e => by cases e
  | .str _ :: _, _, _, _, e => by cases e
  | .tup _ :: _, _, _, _, e => by cases e
  | .lst _ :: _, _, _, _, e => by cases e
  | .seq _ :: _, _, _, _, e => by cases e
  | .dk _ _ :: _, _, _, _, e => by cases e
  | .dt _ _ :: _, _, _, _, e => by cases e
  | .ins _ _ _ :: _, _, _, _, e => by cases e
  | .ref _ :: _, _, _, _, e => by cases e
  | .gl _ :: _, _, _, _, e => by cases e
theorem keyD_w {K : PySem.W.Frag} {mg : Str → Option Value} {W : Wd} {d : D} {v : V} {k : Key} (r : Rep K mg W d v) (e : keyD d = some k) : v = kV k := by
  cases d <;> cases e <;> exact r
theorem keysD_v {K : PySem.W.Frag} {mg : Str → Option Value} {W : Wd} : ∀ {ds : List D} {vs : List V} {ks : List Key}, Reps K mg W ds vs → keysD ds = some ks → vs = ks.map kV
  | [], vs, ks, r, e => by
    cases e
    exact r
  | d :: ds, vs, ks, ⟨v, t, ev, rv, rt⟩, e => by
    subst ev
    unfold keysD at e
    cases e1 : keyD d with
    | none => rw [e1] at e; cases e
    | some k =>
      rw [e1] at e
      cases e2 : keysD ds with
      | none => rw [e2] at e; cases e
      | some l =>
        rw [e2] at e
        cases e
        rw [List.map_cons, keyD_w rv e1, keysD_v rt e2]
theorem reps_val {κ : Type} [DecidableEq κ] : ∀ {ks : List κ} {ds : List D} {vs : List V} {k : κ}, ks.length = ds.length → Reps K mg W ds vs →
    (∀ d, valD ks ds k = some d → ∃ v, valD ks vs k = some v ∧ Rep K mg W d v) ∧ (valD ks ds k = none → valD ks vs k = none)
  | [], [], _, k, _, h => by
    cases h
    exact ⟨fun d e => (by cases e), fun _ => rfl⟩
  | g :: ks, d :: ds, _, k, hl, ⟨v, r, e, h, t⟩ => by
    subst e
    have ih := reps_val (ks := ks) (ds := ds) (k := k) (by simpa using hl) t
    unfold valD at ih ⊢
    simp only [List.zip_cons_cons, List.find?_cons]
    by_cases hg : g = k
    · simp only [hg, decide_true]
      refine ⟨fun d' e => ?_, fun e => ?_⟩
      · have e' : d = d' := by simpa using e
        subst e'
        exact ⟨v, by simp, h⟩
      · simp at e
    · simp only [hg, decide_false] at ih ⊢
      exact ih
  | [], _ :: _, _, _, hl, _ => by simp at hl
  | _ :: _, [], _, _, hl, _ => by simp at hl
end

section
variable {X : Cx} {Wx : WX}
/-! ### comparisons -/
def coOp : CO → CmpOp
  | .eq => .Eq | .ne => .NotEq | .lt => .Lt | .le => .LtE | .gt => .Gt | .ge => .GtE | .inn => .In | .nin => .NotIn | .isn => .Is | .ntn => .IsNot
theorem or_din (hu : X.A.units + 1 < cLine) : OpR X (compareOp .In) (fun y x H Q => ∃ a o, x = .ref a ∧ DGet H a y o ∧ Q (.bl o.isSome) H) := by
  intro pins s σ H x y v u Q I rx ry h
  obtain ⟨a, o, rfl, g, q⟩ := h
  cases ry
  exact d_in hu I g rx fun s' I' => ⟨.bl _, H, I', rfl, q⟩
theorem or_dnotin (hu : X.A.units + 1 < cLine) : OpR X (compareOp .NotIn) (fun y x H Q => ∃ a o, x = .ref a ∧ DGet H a y o ∧ Q (.bl (!o.isSome)) H) := by
  intro pins s σ H x y v u Q I rx ry h
  obtain ⟨a, o, rfl, g, q⟩ := h
  cases ry
  exact d_notIn hu I g rx fun s' I' => ⟨.bl _, H, I', rfl, q⟩
theorem any_ints (i : Int) : ∀ l : List Int, inV (.int i) (l.map V.int) = l.any fun z => z == i
  | [] => rfl
  | a :: l => by
    have ih := any_ints i l
    unfold inV at ih ⊢
    rw [List.map_cons, List.any_cons, List.any_cons, ih]
    rfl
theorem flat_ints : ∀ l : List Int, (l.map V.int).all flatV = true
  | [] => rfl
  | a :: l => by rw [List.map_cons, List.all_cons, flat_ints l]; rfl
theorem zip_any {κ : Type} [DecidableEq κ] (k : κ) : ∀ (ks : List κ) (vs : List V), ks.length = vs.length → (ks.any fun g => decide (g = k)) = (valV (ks.zip vs) k).isSome
  | [], [], _ => rfl
  | g :: ks, v :: vs, hl => by
    have ih := zip_any k ks vs (by simpa using hl)
    by_cases hg : g = k
    · rw [List.zip_cons_cons, valV_pos hg, List.any_cons, decide_eq_true hg]
      rfl
    · rw [List.zip_cons_cons, valV_neg hg, List.any_cons, decide_eq_false hg, ih]
      rfl
  | [], _ :: _, hl => by simp at hl
  | _ :: _, [], hl => by simp at hl
theorem dget_rt {H : Hp} {a b : Addr} {kvs : List (List Key × V)} {k : List Key} (e : Rd H a (.dT kvs)) (eb : H b = some (.tup (k.map kV))) : DGet H a (.ref b) (valV kvs k) := .inr ⟨kvs, k, b, e, rfl, eb, rfl⟩
/-- what is in what -/
theorem in_ok {W : Wd} {m : Mu} {H : Hp} {x y : D} {v u : V} {b : Bool} (st : St0 X.K X.mg W m H) (hx : Vw X.K X.mg W H x v) (hy : Vw X.K X.mg W H y u) (e : inD? x y = some b) :
    (∃ d ds, Dp X.K H v d ∧ Dp X.K H u (.list ds) ∧ SeqAt.shaped d = true ∧ SeqAt.shaped (.list ds) = true ∧ (ds.any fun z => PyData.eqv z d) = b) ∨
    (∃ p xs, u = .ref p ∧ (SqL X.K H p xs ∨ SqT X.K H p xs) ∧ flatV v = true ∧ xs.all flatV = true ∧ inV v xs = b) ∨ ∃ a o, u = .ref a ∧ DGet H a v o ∧ o.isSome = b := by
  unfold inD? at e
  cases y <;> try cases e
  case lst ds =>
    dsimp only at e
    cases e1 : x.py with
    | none => rw [e1] at e; cases e
    | some p =>
      cases e2 : D.pys ds with
      | none => rw [e1, e2] at e; cases e
      | some qs =>
        rw [e1, e2] at e
        dsimp only at e
        split at e
        · rename_i g
          cases e
          obtain ⟨g1, g2⟩ := Bool.and_eq_true_iff.mp g
          exact .inl ⟨p, qs, vw_dp st.sub hx e1, vw_dp st.sub hy (by show (D.pys ds).map PyData.list = _; rw [e2]; rfl), g1, g2, rfl⟩
        · cases e
  case tup ds =>
    dsimp only at e
    split at e
    · rename_i i l e1
      cases e
      obtain ⟨a, vs, rfl, h, r⟩ := hy.tup st.sub
      have hv := nums_vals r e1
      subst hv
      rw [hx.int]
      exact .inr (.inl ⟨a, _, rfl, .inr h, rfl, flat_ints l, any_ints _ l⟩)
    · cases e
  case dk ks ds =>
    dsimp only at e
    obtain ⟨a, vs, rfl, h, n, r⟩ := hy.dk st.sub
    split at e
    · cases e
      rw [hx.int]
      exact .inr (.inr ⟨a, _, rfl, DGet.k (k := .inl _) h, (zip_any _ ks vs (n.trans r.length)).symm⟩)
    · cases e
      rw [hx.str]
      exact .inr (.inr ⟨a, _, rfl, DGet.k (k := .inr _) h, (zip_any _ ks vs (n.trans r.length)).symm⟩)
    · cases e
  case dt ks ds =>
    dsimp only at e
    obtain ⟨a, vs, rfl, h, n, r⟩ := hy.dt st.sub
    split at e
    · rename_i ys
      obtain ⟨k, ek, e⟩ := Option.map_eq_some_iff.mp e
      cases e
      obtain ⟨b, us, rfl, hb, ru⟩ := hx.tupR
      have eu := keysD_v ru ek
      subst eu
      exact .inr (.inr ⟨a, _, rfl, dget_rt (k := k) h (st.sub _ _ hb), (zip_any k ks vs (n.trans r.length)).symm⟩)
    · cases e
theorem eq_ok {W : Wd} {m : Mu} {H : Hp} {x y : D} {v u : V} {b : Bool} (st : St0 X.K X.mg W m H) (hx : Vw X.K X.mg W H x v) (hy : Vw X.K X.mg W H y u) (e : eqD? x y = some b) :
    ∃ d c, Dp X.K H v d ∧ Dp X.K H u c ∧ SeqAt.shaped d = true ∧ SeqAt.shaped c = true ∧ PyData.eqv d c = b := by
  unfold eqD? at e
  cases e1 : x.py with
  | none => rw [e1] at e; cases e
  | some p =>
    cases e2 : y.py with
    | none => rw [e1, e2] at e; cases e
    | some q =>
      rw [e1, e2] at e
      dsimp only at e
      split at e
      · rename_i g
        cases e
        obtain ⟨g1, g2⟩ := Bool.and_eq_true_iff.mp g
        exact ⟨p, q, vw_dp st.sub hx e1, vw_dp st.sub hy e2, g1, g2, rfl⟩
      · cases e
theorem cmpI_ok {f : Int → Int → Bool} {W : Wd} {H : Hp} {x y : D} {v u : V} {b : Bool} (hx : Vw X.K X.mg W H x v) (hy : Vw X.K X.mg W H y u) (e : cmpI? f x y = some b) : ∃ i j, v = .int i ∧ u = .int j ∧ f i j = b := by
  unfold cmpI? at e
  split at e
  · cases e
    exact ⟨_, _, hx.int, hy.int, rfl⟩
  · cases e
theorem opC_of {o : CO} {r : R2} (hr : OpR X (compareOp (coOp o)) r)
    (h : ∀ (W : Wd) (m : Mu) (H : Hp) (Q : VK) (x y : D) (v u : V) (b : Bool), St0 X.K X.mg W m H → Vw X.K X.mg W H x v → Vw X.K X.mg W H y u → cmpD? o x y = some b → Q (.bl b) H → r v u H Q) : OpOk X Wx (compareOp (coOp o)) (opC o) := by
  refine ⟨r, hr, fun W m σ H Q x y v u st hx hy out => ?_⟩
  unfold opC at out
  cases e : cmpD? o x y with
  | none => rw [e] at out; exact out.elim
  | some b =>
    rw [e] at out
    exact h W m H Q x y v u b st hx hy e (out.fin st rfl)
theorem map_not {o : Option Bool} {b : Bool} (h : o.map not = some b) : ∃ k, o = some k ∧ (!k) = b := by
  obtain ⟨k, e1, e2⟩ := Option.map_eq_some_iff.mp h
  exact ⟨k, e1, e2⟩
theorem opC_ok (hu : X.A.units + 200 < cLine) (o : CO) : OpOk X Wx (compareOp (coOp o)) (opC o) := by
  cases o with
  | eq =>
    refine opC_of (op_eqD (by omega)) fun W m H Q x y v u b st hx hy e q => ?_
    obtain ⟨d, c, a1, a2, a3, a4, rfl⟩ := eq_ok st hx hy e
    exact ⟨d, c, a1, a2, a3, a4, q⟩
  | ne =>
    refine opC_of (op_neD (by omega)) fun W m H Q x y v u b st hx hy e q => ?_
    obtain ⟨k, e1, rfl⟩ := map_not e
    obtain ⟨d, c, a1, a2, a3, a4, rfl⟩ := eq_ok st hx hy e1
    exact ⟨d, c, a1, a2, a3, a4, q⟩
  | lt =>
    refine opC_of op_lt fun W m H Q x y v u b st hx hy e q => ?_
    obtain ⟨i, j, a1, a2, rfl⟩ := cmpI_ok hx hy e
    exact ⟨i, j, a1, a2, q⟩
  | le =>
    refine opC_of op_le fun W m H Q x y v u b st hx hy e q => ?_
    obtain ⟨i, j, a1, a2, rfl⟩ := cmpI_ok hx hy e
    exact ⟨i, j, a1, a2, q⟩
  | gt =>
    refine opC_of op_gt fun W m H Q x y v u b st hx hy e q => ?_
    obtain ⟨i, j, a1, a2, rfl⟩ := cmpI_ok hx hy e
    exact ⟨i, j, a1, a2, q⟩
  | ge =>
    refine opC_of op_ge fun W m H Q x y v u b st hx hy e q => ?_
    obtain ⟨i, j, a1, a2, rfl⟩ := cmpI_ok hx hy e
    exact ⟨i, j, a1, a2, q⟩
  | inn =>
    refine opC_of ((op_inD (by omega)).or (op_in_seq.or (or_din (by omega)))) fun W m H Q x y v u b st hx hy e q => ?_
    rcases in_ok st hx hy e with ⟨d, ds, a1, a2, a3, a4, rfl⟩ | ⟨p, xs, a1, a2, a3, a4, rfl⟩ | ⟨a, r, a1, a2, rfl⟩
    · exact .inl ⟨d, ds, a1, a2, a3, a4, q⟩
    · exact .inr (.inl ⟨p, xs, a1, a2, a3, a4, q⟩)
    · exact .inr (.inr ⟨a, r, a1, a2, q⟩)
  | nin =>
    refine opC_of ((op_notInD (by omega)).or (op_notIn_seq.or (or_dnotin (by omega)))) fun W m H Q x y v u b st hx hy e q => ?_
    obtain ⟨k, e1, rfl⟩ := map_not e
    rcases in_ok st hx hy e1 with ⟨d, ds, a1, a2, a3, a4, rfl⟩ | ⟨p, xs, a1, a2, a3, a4, rfl⟩ | ⟨a, r, a1, a2, rfl⟩
    · exact .inl ⟨d, ds, a1, a2, a3, a4, q⟩
    · exact .inr (.inl ⟨p, xs, a1, a2, a3, a4, q⟩)
    · exact .inr (.inr ⟨a, r, a1, a2, q⟩)
  | isn =>
    refine opC_of op_isN fun W m H Q x y v u b st hx hy e q => ?_
    have e' : (if isNon y = true then some (isNon x) else none) = some b := e
    split at e'
    · rename_i hn
      cases e'
      have hy' := isNon_ok hn
      subst hy'
      refine ⟨hy.non, ?_⟩
      rw [vw_non hx]
      exact q
    · cases e'
  | ntn =>
    refine opC_of op_notN fun W m H Q x y v u b st hx hy e q => ?_
    have e' : (if isNon y = true then some (!isNon x) else none) = some b := e
    split at e'
    · rename_i hn
      cases e'
      have hy' := isNon_ok hn
      subst hy'
      refine ⟨hy.non, ?_⟩
      rw [vw_non hx]
      exact q
    · cases e'
theorem de_cmp (hu : X.A.units + 200 < cLine) {o : CO} {a b : Expr} {pos : Pos} {fa fb : Sl → Mu → R D} (ha : PE X a (tP X Wx fa)) (hb : PE X b (tP X Wx fb)) (hm : behindInMarks (coOp o) b = false) :
    PE X (.Compare a [coOp o] [b] pos) (tS X Wx fun s m => (fa s m).bind fun x m1 => (fb s m1).bind fun y m2 => opC o (seeD m2 x) (seeD m2 y) m2) := by
  obtain ⟨r, hr, hq⟩ := opC_ok (X := X) (Wx := Wx) hu o
  refine pe_imp (pe_cmpR hr ha hb hm) fun σ H Q ⟨W, s, m, hs, o⟩ => ?_
  refine run rb_sv hs o fun x m1 W1 v H1 _ h1 p1 av o1 => ?_
  refine run rb_sv h1 o1 fun y m2 W2 u H2 _ h2 p2 bv o2 => ?_
  exact hq W2 m2 σ H2 Q _ _ v u h2.toSt0 (see (H0 := H1) h2.toSt0 (av.step p2)) (see h2.toSt0 bv) o2
/-- a truth value as a test -/
theorem bl_of {W : Wd} {m : Mu} {σ : L2.St} {H : Hp} {Q : Bool → Hp → Prop} {g : R SV} (st : St0 X.K X.mg W m H)
    (o : OutG X.K X.mg (fun W H H' => BlAt W H H') Wx W H σ (g.bind fun r m3 => (match r.fz with | .bl k => .ok k m3 | _ => .bad)) Q) :
    OutG X.K X.mg (SvAt X.K X.mg) Wx W H σ g (fun z H3 => ∃ k, z = .bl k ∧ Q k H3) := by
  cases g with
  | bad => exact o
  | ex x m' => exact o
  | ok a m' =>
    intro W' b H' x' p' av
    cases a with
    | val d =>
      cases d <;> try exact o.elim
      cases av
      exact ⟨_, rfl, o W' _ H' x' p' rfl⟩
    | own c => cases c <;> exact o.elim
theorem dt_cmp (hu : X.A.units + 200 < cLine) {o : CO} {a b : Expr} {pos : Pos} {fa fb : Sl → Mu → R D} (ha : PE X a (tP X Wx fa)) (hb : PE X b (tP X Wx fb)) (hm : behindInMarks (coOp o) b = false) :
    PT X (.Compare a [coOp o] [b] pos) (tT X Wx fun s m => (fa s m).bind fun x m1 => (fb s m1).bind fun y m2 => (opC o (seeD m2 x) (seeD m2 y) m2).bind fun r m3 => (match r.fz with | .bl k => .ok k m3 | _ => .bad)) := by
  obtain ⟨r, hr, hq⟩ := opC_ok (X := X) (Wx := Wx) hu o
  refine pt_imp (pt_cmpR hr ha hb hm) fun σ H Q ⟨W, s, m, hs, o⟩ => ?_
  refine run rb_bl hs o fun x m1 W1 v H1 _ h1 p1 av o1 => ?_
  refine run rb_bl h1 o1 fun y m2 W2 u H2 _ h2 p2 bv o2 => ?_
  exact hq W2 m2 σ H2 _ _ _ v u h2.toSt0 (see (H0 := H1) h2.toSt0 (av.step p2)) (see h2.toSt0 bv) (bl_of h2.toSt0 o2)
theorem opC_noex {o : CO} {a b : D} {m : Mu} : (∃ k, opC o a b m = .ok (.val (.bl k)) m) ∨ opC o a b m = .bad := by
  unfold opC
  cases cmpD? o a b with
  | none => exact .inr rfl
  | some k => exact .inl ⟨k, rfl⟩
theorem de_chn (hu : X.A.units + 200 < cLine) {o p : CO} {a b c : Expr} {pos : Pos} {fa fb fc : Sl → Mu → R SV} (ha : PE X a (tS X Wx fa)) (hb : PE X b (tS X Wx fb)) (hc : PE X c (tS X Wx fc)) (hm : lastMarks [coOp o, coOp p] [b, c] = false) :
    PE X (.Compare a [coOp o, coOp p] [b, c] pos) (tS X Wx fun s m => (fa s m).bind fun x m1 => (fb s m1).bind fun y m2 => (opC o x.fz y.fz m2).bind fun r m3 => (match r.fz with
    | .bl true => (fc s m3).bind fun z m4 => opC p y.fz z.fz m4
    | .bl false => .ok (.val (.bl false)) m3
    | _ => .bad)) := by
  obtain ⟨r, hr, hq⟩ := opC_ok (X := X) (Wx := Wx) hu o
  obtain ⟨r', hr', hq'⟩ := opC_ok (X := X) (Wx := Wx) hu p
  refine pe_imp (pe_chain hr hr' ha hb hc hm) fun σ H Q ⟨W, s, m, hs, out⟩ => ?_
  refine runz rb_sv hs out fun x m1 W1 v H1 h1 p1 av o1 => ?_
  refine runz rb_sv h1 o1 fun y m2 W2 u H2 h2 p2 bv o2 => ?_
  refine hq W2 m2 σ H2 _ _ _ v u h2.toSt0 (.inl (Rep.mono p2.le _ _ av)) (.inl bv) ?_
  rcases opC_noex (o := o) (a := x.fz) (b := y.fz) (m := m2) with ⟨k, e⟩ | e
  · rw [e] at o2 ⊢
    intro W3 z H3 x3 p3 zv
    cases zv
    refine ⟨k, rfl, ?_⟩
    have h3 := h2.step p3 x3
    have o3 := OutG.rebase rb_sv x3 p3 o2
    cases k with
    | true =>
      rw [if_pos rfl]
      refine runz rb_sv h3 o3 fun z m4 W4 w H4 h4 p4 cv o4 => ?_
      exact hq' W4 m4 σ H4 Q _ _ u w h4.toSt0 (.inl (Rep.mono (p3.le.trans p4.le) _ _ bv)) (.inl cv) o4
    | false =>
      rw [if_neg Bool.false_ne_true]
      exact o3.fin x3 rfl
  · rw [e] at o2
    exact o2.elim
theorem dt_chn (hu : X.A.units + 200 < cLine) {o p : CO} {a b c : Expr} {pos : Pos} {fa fb fc : Sl → Mu → R SV} (ha : PE X a (tS X Wx fa)) (hb : PE X b (tS X Wx fb)) (hc : PE X c (tS X Wx fc)) (hm : lastMarks [coOp o, coOp p] [b, c] = false) :
    PT X (.Compare a [coOp o, coOp p] [b, c] pos) (tT X Wx fun s m => (fa s m).bind fun x m1 => (fb s m1).bind fun y m2 => (opC o x.fz y.fz m2).bind fun r m3 => (match r.fz with
    | .bl true => (fc s m3).bind fun z m4 => (opC p y.fz z.fz m4).bind fun q m5 => (match q.fz with | .bl k => .ok k m5 | _ => .bad)
    | .bl false => .ok false m3
    | _ => .bad)) := by
  obtain ⟨r, hr, hq⟩ := opC_ok (X := X) (Wx := Wx) hu o
  obtain ⟨r', hr', hq'⟩ := opC_ok (X := X) (Wx := Wx) hu p
  refine pt_imp (pt_chain hr hr' ha hb hc hm) fun σ H Q ⟨W, s, m, hs, out⟩ => ?_
  refine runz rb_bl hs out fun x m1 W1 v H1 h1 p1 av o1 => ?_
  refine runz rb_bl h1 o1 fun y m2 W2 u H2 h2 p2 bv o2 => ?_
  refine hq W2 m2 σ H2 _ _ _ v u h2.toSt0 (.inl (Rep.mono p2.le _ _ av)) (.inl bv) ?_
  rcases opC_noex (o := o) (a := x.fz) (b := y.fz) (m := m2) with ⟨k, e⟩ | e
  · rw [e] at o2 ⊢
    intro W3 z H3 x3 p3 zv
    cases zv
    refine ⟨k, rfl, ?_⟩
    have h3 := h2.step p3 x3
    have o3 := OutG.rebase rb_bl x3 p3 o2
    cases k with
    | true =>
      rw [if_pos rfl]
      refine runz rb_bl h3 o3 fun z m4 W4 w H4 h4 p4 cv o4 => ?_
      exact hq' W4 m4 σ H4 _ _ _ u w h4.toSt0 (.inl (Rep.mono (p3.le.trans p4.le) _ _ bv)) (.inl cv) (bl_of h4.toSt0 o4)
    | false =>
      rw [if_neg Bool.false_ne_true]
      exact ⟨false, rfl, o3.fin x3 rfl⟩
  · rw [e] at o2
    exact o2.elim

/-! ### not, and, or, if-else as values; minus -/
theorem de_neg {a : Expr} {pos : Pos} {fa : Sl → Mu → R SV} (ha : PE X a (tS X Wx fa)) :
    PE X (.UnaryOp .USub a pos) (tS X Wx fun s m => (fa s m).bind fun x m1 => (match x.fz with | .int i => .ok (.val (.int (-i))) m1 | _ => .bad)) := by
  refine pe_imp (pe_un un_neg ha) fun σ H Q ⟨W, s, m, hs, out⟩ => ?_
  refine runz rb_sv hs out fun x m1 W1 v H1 h1 p1 av o1 => ?_
  split at o1
  · rename_i i e
    rw [e] at av
    exact ⟨i, av, o1.fin h1.toSt0 rfl⟩
  · exact o1.elim
theorem de_not {a : Expr} {pos : Pos} {fa : Sl → Mu → R SV} (ha : PE X a (tS X Wx fa)) :
    PE X (.UnaryOp .Not a pos) (tS X Wx fun s m => (fa s m).bind fun x m1 => (match x.fz with | .bl b => .ok (.val (.bl (!b))) m1 | _ => .bad)) := by
  refine pe_imp (pe_not ha) fun σ H Q ⟨W, s, m, hs, out⟩ => ?_
  refine runz rb_sv hs out fun x m1 W1 v H1 h1 p1 av o1 => ?_
  split at o1
  · rename_i i e
    rw [e] at av
    exact ⟨i, av, o1.fin h1.toSt0 rfl⟩
  · exact o1.elim
theorem de_and {a b : Expr} {rest : List Expr} {pos : Pos} {fa fb : Sl → Mu → R SV} (ha : PE X a (tS X Wx fa)) (hb : PE X (.BoolOp .And (b :: rest) pos) (tS X Wx fb)) :
    PE X (.BoolOp .And (a :: b :: rest) pos) (tS X Wx fun s m => (fa s m).bind fun x m1 => (match x.fz with | .bl true => fb s m1 | .bl false => .ok (.val (.bl false)) m1 | _ => .bad)) := by
  refine pe_imp (pe_and ha hb) fun σ H Q ⟨W, s, m, hs, out⟩ => ?_
  refine runz rb_sv hs out fun x m1 W1 v H1 h1 p1 av o1 => ?_
  split at o1
  · rename_i e
    rw [e] at av
    refine ⟨true, av, ?_⟩
    rw [if_pos rfl]
    exact ⟨W1, s, m1, h1, o1⟩
  · rename_i e
    rw [e] at av
    refine ⟨false, av, ?_⟩
    rw [if_neg Bool.false_ne_true]
    exact o1.fin h1.toSt0 rfl
  · exact o1.elim
theorem de_or {a b : Expr} {rest : List Expr} {pos : Pos} {fa fb : Sl → Mu → R SV} (ha : PE X a (tS X Wx fa)) (hb : PE X (.BoolOp .Or (b :: rest) pos) (tS X Wx fb)) :
    PE X (.BoolOp .Or (a :: b :: rest) pos) (tS X Wx fun s m => (fa s m).bind fun x m1 => (match x.fz with | .bl true => .ok (.val (.bl true)) m1 | .bl false => fb s m1 | _ => .bad)) := by
  refine pe_imp (pe_or ha hb) fun σ H Q ⟨W, s, m, hs, out⟩ => ?_
  refine runz rb_sv hs out fun x m1 W1 v H1 h1 p1 av o1 => ?_
  split at o1
  · rename_i e
    rw [e] at av
    refine ⟨true, av, ?_⟩
    rw [if_pos rfl]
    exact o1.fin h1.toSt0 rfl
  · rename_i e
    rw [e] at av
    refine ⟨false, av, ?_⟩
    rw [if_neg Bool.false_ne_true]
    exact ⟨W1, s, m1, h1, o1⟩
  · exact o1.elim
theorem de_ife {c a b : Expr} {pos : Pos} {fc : Sl → Mu → R Bool} {fa fb : Sl → Mu → R SV} (hc : PT X c (tT X Wx fc)) (ha : PE X a (tS X Wx fa)) (hb : PE X b (tS X Wx fb)) :
    PE X (.IfExp c a b pos) (tS X Wx fun s m => (fc s m).bind fun t m1 => if t = true then fa s m1 else fb s m1) := by
  refine pe_imp (pe_ifExp hc ha hb) fun σ H Q ⟨W, s, m, hs, out⟩ => ?_
  refine run rb_sv hs out fun x m1 W1 v H1 _ h1 p1 av o1 => ?_
  cases av
  cases x with
  | true =>
    rw [if_pos rfl] at o1 ⊢
    exact ⟨W1, s, m1, h1, o1⟩
  | false =>
    rw [if_neg Bool.false_ne_true] at o1 ⊢
    exact ⟨W1, s, m1, h1, o1⟩

/-! ### tests -/
theorem dt_not {a : Expr} {pos : Pos} {f : Sl → Mu → R Bool} (ha : PT X a (tT X Wx f)) : PT X (.UnaryOp .Not a pos) (tT X Wx fun s m => (f s m).bind fun t m1 => .ok (!t) m1) := by
  refine pt_imp (pt_not ha) fun σ H Q ⟨W, s, m, hs, out⟩ => ?_
  refine run rb_bl hs out fun x m1 W1 v H1 _ h1 p1 av o1 => ?_
  cases av
  exact o1.fin h1.toSt0 rfl
theorem dw_and1 {a : Expr} {pos : Pos} {f : Sl → Mu → R Bool} (ha : PT X a (tT X Wx f)) : PW X (.BoolOp .And [a] pos) (tT X Wx fun s m => (f s m).bind fun t m1 => if t = true then .ok true m1 else .ok false m1) := by
  refine pw_imp (pw_and1 ha) fun σ H Q ⟨W, s, m, hs, out⟩ => ?_
  refine run rb_bl hs out fun x m1 W1 v H1 _ h1 p1 av o1 => ?_
  cases av
  cases x <;> exact o1.fin h1.toSt0 rfl
theorem dw_or1 {a : Expr} {pos : Pos} {f : Sl → Mu → R Bool} (ha : PT X a (tT X Wx f)) : PW X (.BoolOp .Or [a] pos) (tT X Wx fun s m => (f s m).bind fun t m1 => if t = true then .ok true m1 else .ok false m1) := by
  refine pw_imp (pw_or1 ha) fun σ H Q ⟨W, s, m, hs, out⟩ => ?_
  refine run rb_bl hs out fun x m1 W1 v H1 _ h1 p1 av o1 => ?_
  cases av
  cases x <;> exact o1.fin h1.toSt0 rfl
theorem dw_and {a b : Expr} {rest : List Expr} {pos : Pos} {f g : Sl → Mu → R Bool} (ha : PT X a (tT X Wx f)) (hb : PW X (.BoolOp .And (b :: rest) pos) (tT X Wx g)) :
    PW X (.BoolOp .And (a :: b :: rest) pos) (tT X Wx fun s m => (f s m).bind fun t m1 => if t = true then g s m1 else .ok false m1) := by
  refine pw_imp (pw_and ha hb) fun σ H Q ⟨W, s, m, hs, out⟩ => ?_
  refine run rb_bl hs out fun x m1 W1 v H1 _ h1 p1 av o1 => ?_
  cases av
  cases x with
  | true => exact ⟨W1, s, m1, h1, o1⟩
  | false => exact o1.fin h1.toSt0 rfl
theorem dw_or {a b : Expr} {rest : List Expr} {pos : Pos} {f g : Sl → Mu → R Bool} (ha : PT X a (tT X Wx f)) (hb : PW X (.BoolOp .Or (b :: rest) pos) (tT X Wx g)) :
    PW X (.BoolOp .Or (a :: b :: rest) pos) (tT X Wx fun s m => (f s m).bind fun t m1 => if t = true then .ok true m1 else g s m1) := by
  refine pw_imp (pw_or ha hb) fun σ H Q ⟨W, s, m, hs, out⟩ => ?_
  refine run rb_bl hs out fun x m1 W1 v H1 _ h1 p1 av o1 => ?_
  cases av
  cases x with
  | true => exact o1.fin h1.toSt0 rfl
  | false => exact ⟨W1, s, m1, h1, o1⟩
theorem tru_of {W : Wd} {m : Mu} {H : Hp} {d : D} {v : V} {b : Bool} (st : St0 X.K X.mg W m H) (hv : Vw X.K X.mg W H d v) (e : truthD d = some b) : TruV X.K v H b := by
  cases d <;> try cases e
  case non => rw [hv.non]; rfl
  case bl => rw [hv.bl]; rfl
  case int => rw [hv.int]; rfl
  case tup ds =>
    obtain ⟨a, vs, rfl, h, r⟩ := hv.tup st.sub
    refine .inr (.inl ⟨vs, h, ?_⟩)
    cases ds with
    | nil => cases r; rfl
    | cons _ _ => obtain ⟨_, _, e, _⟩ := r; subst e; rfl
  case lst ds =>
    obtain ⟨a, vs, rfl, h, r⟩ := hv.lst st.sub
    refine .inl ⟨vs, SqL.of h, ?_⟩
    cases ds with
    | nil => cases r; rfl
    | cons _ _ => obtain ⟨_, _, e, _⟩ := r; subst e; rfl
  case seq ds =>
    obtain ⟨a, vs, rfl, h, r⟩ := hv.seq st.sub
    refine .inl ⟨vs, h, ?_⟩
    cases ds with
    | nil => cases r; rfl
    | cons _ _ => obtain ⟨_, _, e, _⟩ := r; subst e; rfl
  case dk ks ds =>
    obtain ⟨a, vs, rfl, h, n, r⟩ := hv.dk st.sub
    refine .inr (.inr ⟨_, h, ?_⟩)
    cases ks with
    | nil => rfl
    | cons _ _ =>
      cases ds with
      | nil => cases n
      | cons _ _ => obtain ⟨_, _, e, _⟩ := r; subst e; rfl
/-- any expression whose test is its value's truth -/
theorem dt_e {a : Expr} {f : Sl → Mu → R D} (ha : PE X a (tP X Wx f)) (he : ∀ whole, isTrue a X.env whole = (do let v ← whole; standAt a.pos; holding [v] (truthy v))) :
    PT X a (tT X Wx fun s m => (f s m).bind fun x m1 => (match truthD (seeD m1 x) with | some b => .ok b m1 | none => .bad)) := by
  refine pt_imp (pt_truth ha he) fun σ H Q ⟨W, s, m, hs, out⟩ => ?_
  refine run rb_bl hs out fun x m1 W1 v H1 _ h1 p1 av o1 => ?_
  split at o1
  · rename_i b e
    exact ⟨b, tru_of h1.toSt0 (see h1.toSt0 av) e, o1.fin h1.toSt0 rfl⟩
  · exact o1.elim

/-! ### argument lists, displays -/
theorem da_nil : PA X [] (tL X Wx fun _ m => .ok [] m) := pa_imp pa_nil fun σ H Q ⟨W, s, m, hs, out⟩ => out.fin hs.toSt0 Reps.nil
theorem da_cons {e : Expr} {es : List Expr} {f : Sl → Mu → R SV} {g : Sl → Mu → R (List D)} (ha : PE X e (tS X Wx f)) (hr : PA X es (tL X Wx g)) (hs : starEach (e :: es) X.env = (false, eval e X.env) :: starEach es X.env) :
    PA X (e :: es) (tL X Wx fun s m => (f s m).bind fun x m1 => (g s m1).bind fun xs m2 => .ok (x.fz :: xs) m2) := by
  refine pa_imp (pa_cons ha hr hs) fun σ H Q ⟨W, s, m, hs, out⟩ => ?_
  refine runz rb_ls hs out fun x m1 W1 v H1 h1 p1 av o1 => ?_
  refine run rb_ls h1 o1 fun xs m2 W2 vs H2 _ h2 p2 bv o2 => ?_
  exact o2.fin h2.toSt0 (Reps.cons (Rep.mono p2.le _ _ av) bv)
theorem dap_nil : PA X [] (tLP X Wx fun _ m => .ok [] m) := pa_imp pa_nil fun σ H Q ⟨W, s, m, hs, out⟩ => out.fin hs.toSt0 .nil
theorem dap_cons {e : Expr} {es : List Expr} {f : Sl → Mu → R D} {g : Sl → Mu → R (List D)} (ha : PE X e (tP X Wx f)) (hr : PA X es (tLP X Wx g)) (hs : starEach (e :: es) X.env = (false, eval e X.env) :: starEach es X.env) :
    PA X (e :: es) (tLP X Wx fun s m => (f s m).bind fun x m1 => (g s m1).bind fun xs m2 => .ok (x :: xs) m2) := by
  refine pa_imp (pa_cons ha hr hs) fun σ H Q ⟨W, s, m, hs, out⟩ => ?_
  refine run rb_vws hs out fun x m1 W1 v H1 _ h1 p1 av o1 => ?_
  refine run rb_vws h1 o1 fun xs m2 W2 vs H2 _ h2 p2 bv o2 => ?_
  exact o2.fin h2.toSt0 (.cons (av.step p2) bv.any)
theorem de_tup {es : List Expr} {k : Nat} {pos : Pos} {f : Sl → Mu → R (List D)} (h : PA X es (tL X Wx f)) : PE X (.Tuple es k pos) (tS X Wx fun s m => (f s m).bind fun ds m1 => guardR (decide (ds.length ≤ sizeLine)) (.ok (.val (.tup ds)) m1)) := by
  refine pe_imp (pe_tup h) fun σ H Q ⟨W, s, m, hs, out⟩ => ?_
  refine run rb_sv hs out fun ds m1 W1 vs H1 _ h1 p1 r o1 => ?_
  obtain ⟨g, o1⟩ := guard_t o1
  have g := of_decide_eq_true g
  have r' : Reps X.K X.mg W1 ds vs := r
  rw [r'.length] at g
  exact ⟨g, tup_new h1.toSt0 r o1⟩
theorem de_lst {es : List Expr} {pos : Pos} {f : Sl → Mu → R (List D)} (h : PA X es (tL X Wx f)) : PE X (.List es pos) (tS X Wx fun s m => (f s m).bind fun ds m1 => guardR (decide (ds.length ≤ sizeLine)) (.ok (.own (.lst ds)) m1)) := by
  refine pe_imp (pe_lst h) fun σ H Q ⟨W, s, m, hs, out⟩ => ?_
  refine run rb_sv hs out fun ds m1 W1 vs H1 _ h1 p1 r o1 => ?_
  obtain ⟨g, o1⟩ := guard_t o1
  have g := of_decide_eq_true g
  have r' : Reps X.K X.mg W1 ds vs := r
  rw [r'.length] at g
  exact ⟨g, own_new (c := .lst ds) h1.toSt0 (fun p => ⟨vs, upd_same, r⟩) o1⟩

/-! ### subscripts, slices -/
theorem atI_rep {W : Wd} {ds : List D} {vs : List V} {i : Int} {d : D} (r : Reps X.K X.mg W ds vs) (e : atI ds i = some d) : ∃ v, atI vs i = some v ∧ Rep X.K X.mg W d v := by
  unfold atI at e ⊢
  rw [r.length] at e
  cases h : ixN vs.length i with
  | none => rw [h] at e; cases e
  | some j =>
    rw [h] at e
    exact r.get e
end
section
variable {X : Cx} {Wx : WX}
/-- d[y], by values -/
theorem ix_dict (hu : X.A.units + 1 < cLine) : IxR X (fun x y H Q => ∃ a v, x = .ref a ∧ DGet H a y (some v) ∧ Q v H) := by
  intro value slice pins s σ H x y v u Q I rx ry h hs
  obtain ⟨a, w, rfl, g, q⟩ := h
  cases rx
  have ht : s.TypeIs (.ref a) "dict" := dict_typeIs I g
  exact tail_any ht PySem.F.slot_dict_getitem.lookup (d_getItem hu I g ry fun w' s' I' r' => ⟨w, H, I', r', q⟩) hs
theorem de_idx (hu : X.A.units + 200 < cLine) {a b : Expr} {pos : Pos} {fa : Sl → Mu → R D} {fb : Sl → Mu → R SV} (ha : PE X a (tP X Wx fa)) (hb : PE X b (tS X Wx fb)) (hs : PlainIx b) :
    PE X (.Subscript a b pos) (tS X Wx fun s m => (fa s m).bind fun x m1 => (fb s m1).bind fun y m2 => opIx (seeD m2 x) y.fz m2) := by
  refine pe_imp (pe_ix (ix_list.or (ix_tup.or (ix_dict (by omega)))) ha hb hs) fun σ H Q ⟨W, s, m, hs, out⟩ => ?_
  refine run rb_sv hs out fun x m1 W1 v H1 _ h1 p1 av o1 => ?_
  refine runz rb_sv h1 o1 fun y m2 W2 u H2 h2 p2 bv o2 => ?_
  have sv := see (m := m2) (H0 := H1) h2.toSt0 (av.step (H1 := H1) p2)
  generalize seeD m2 x = x' at sv o2
  generalize hy : y.fz = y' at bv o2
  cases x' <;> cases y' <;> try exact o2.elim
  case tup.int ds i =>
    dsimp only [opIx] at o2
    obtain ⟨a, vs, rfl, h, r⟩ := sv.tup h2.toSt0.sub
    cases e : atI ds i with
    | none => rw [e] at o2; exact o2.elim
    | some d =>
      rw [e] at o2
      obtain ⟨w, e1, r1⟩ := atI_rep r e
      exact .inr (.inl ⟨a, vs, i, w, rfl, bv, h, e1, o2.fin h2.toSt0 r1⟩)
  case lst.int ds i =>
    dsimp only [opIx] at o2
    obtain ⟨a, vs, rfl, h, r⟩ := sv.lst h2.toSt0.sub
    cases e : atI ds i with
    | none => rw [e] at o2; exact o2.elim
    | some d =>
      rw [e] at o2
      obtain ⟨w, e1, r1⟩ := atI_rep r e
      exact .inl ⟨a, vs, i, w, rfl, bv, SqL.of h, e1, o2.fin h2.toSt0 r1⟩
  case seq.int ds i =>
    dsimp only [opIx] at o2
    obtain ⟨a, vs, rfl, h, r⟩ := sv.seq h2.toSt0.sub
    cases e : atI ds i with
    | none => rw [e] at o2; exact o2.elim
    | some d =>
      rw [e] at o2
      obtain ⟨w, e1, r1⟩ := atI_rep r e
      exact .inl ⟨a, vs, i, w, rfl, bv, h, e1, o2.fin h2.toSt0 r1⟩
  case dk.int ks ds i =>
    dsimp only [opIx] at o2
    obtain ⟨a, vs, rfl, h, n, r⟩ := sv.dk h2.toSt0.sub
    cases e : valD ks ds (.inl i) with
    | none => rw [e] at o2; exact o2.elim
    | some d =>
      rw [e] at o2
      obtain ⟨w, e1, r1⟩ := (reps_val (k := (.inl i : Key)) n r).1 d e
      have g := DGet.k (k := (.inl i : Key)) h
      have e2 : valV (ks.zip vs) (.inl i : Key) = some w := e1
      rw [e2] at g
      cases bv
      exact .inr (.inr ⟨a, w, rfl, g, o2.fin h2.toSt0 r1⟩)
  case dk.str ks ds i =>
    dsimp only [opIx] at o2
    obtain ⟨a, vs, rfl, h, n, r⟩ := sv.dk h2.toSt0.sub
    cases e : valD ks ds (.inr i) with
    | none => rw [e] at o2; exact o2.elim
    | some d =>
      rw [e] at o2
      obtain ⟨w, e1, r1⟩ := (reps_val (k := (.inr i : Key)) n r).1 d e
      have g := DGet.k (k := (.inr i : Key)) h
      have e2 : valV (ks.zip vs) (.inr i : Key) = some w := e1
      rw [e2] at g
      cases bv
      exact .inr (.inr ⟨a, w, rfl, g, o2.fin h2.toSt0 r1⟩)
  case dt.tup ks ds ys =>
    dsimp only [opIx] at o2
    obtain ⟨a, vs, rfl, h, n, r⟩ := sv.dt h2.toSt0.sub
    cases ek : keysD ys with
    | none => rw [ek] at o2; exact o2.elim
    | some k =>
      rw [ek] at o2
      dsimp only at o2
      cases e : valD ks ds k with
      | none => rw [e] at o2; exact o2.elim
      | some d =>
        rw [e] at o2
        obtain ⟨w, e1, r1⟩ := (reps_val (k := k) n r).1 d e
        obtain ⟨b, us, rfl, hb, ru⟩ := bv
        have eu := keysD_v ru ek
        subst eu
        have g := dget_rt (k := k) h (h2.toSt0.sub _ _ hb)
        have e2 : valV (ks.zip vs) k = some w := e1
        rw [e2] at g
        exact .inr (.inr ⟨a, w, rfl, g, o2.fin h2.toSt0 r1⟩)
/-- a part of a slice -/
abbrev tO (X : Cx) (Wx : WX) (f : Sl → Mu → R (Option Int)) : TO := tG X.K X.mg (fun _ _ _ (a b : Option Int) => a = b) Wx f
theorem rb_eq {K : PySem.W.Frag} {mg : Str → Option Value} {α : Type} : Rb K mg (fun _ _ _ (a b : α) => a = b) := fun _ _ _ _ _ _ _ _ _ _ _ _ h => h
theorem do_none : PO X none (tO X Wx fun _ m => .ok none m) := ⟨fun pins s σ H Q I ⟨W, sl, m, hs, out⟩ => po_none.run pins s σ H Q I (out.fin hs.toSt0 rfl)⟩
theorem do_some {e : Expr} {f : Sl → Mu → R SV} (h : PE X e (tS X Wx f)) : PO X (some e) (tO X Wx fun s m => (f s m).bind fun x m1 => (match x.fz with | .int i => .ok (some i) m1 | _ => .bad)) := by
  refine ⟨fun pins s σ H Q I ⟨W, sl, m, hs, out⟩ => (po_some h).run pins s σ H Q I ?_⟩
  refine runz rb_eq hs out fun x m1 W1 v H1 h1 p1 av o1 => ?_
  split at o1
  · rename_i i e
    rw [e] at av
    exact ⟨i, av, o1.fin h1.toSt0 rfl⟩
  · exact o1.elim
theorem reps_cut {W : Wd} {ds : List D} {vs : List V} (lo hi : Option Int) (r : Reps X.K X.mg W ds vs) : Reps X.K X.mg W (cutD ds lo hi) (cutV vs lo hi) := by
  unfold cutD cutV
  rw [r.length]
  exact (r.drop _).take _
theorem de_slc {a : Expr} {lo hi : Option Expr} {pos p2 : Pos} {fa : Sl → Mu → R D} {fl fh : Sl → Mu → R (Option Int)} (ha : PE X a (tP X Wx fa)) (hl : PO X lo (tO X Wx fl)) (hh : PO X hi (tO X Wx fh)) :
    PE X (.Subscript a (.Slice lo hi none p2) pos) (tS X Wx fun s m => (fa s m).bind fun x m1 => (fl s m1).bind fun l m2 => (fh s m2).bind fun h m3 => opSl (seeD m3 x) l h m3) := by
  refine pe_imp (pe_slice (sl_list.or sl_tupA) ha hl hh) fun σ H Q ⟨W, s, m, hs, out⟩ => ?_
  refine run rb_sv hs out fun x m1 W1 v H1 _ h1 p1 av o1 => ?_
  refine run rb_sv h1 o1 fun l m2 W2 l' H2 _ h2 p2 e2 o2 => ?_
  cases e2
  refine run rb_sv h2 o2 fun h m3 W3 h' H3 _ h3 p3 e3 o3 => ?_
  cases e3
  have sv := see (m := m3) (H0 := H1) h3.toSt0 ((av.step (H1 := H1) p2).step (H1 := H1) p3)
  generalize seeD m3 x = x' at sv o3
  cases x' <;> try exact o3.elim
  case lst ds =>
    obtain ⟨a, vs, rfl, hh, r⟩ := sv.lst h3.toSt0.sub
    exact .inl ⟨a, vs, rfl, SqL.of hh, own_new (c := .lst (cutD ds l h)) h3.toSt0 (fun p => ⟨_, upd_same, reps_cut l h r⟩) o3⟩
  case tup ds =>
    have hr := sv.tupR
    obtain ⟨a, vs, rfl, hh, r⟩ := sv.tup h3.toSt0.sub
    refine .inr ⟨a, vs, rfl, hh, fun e => ?_, fun _ => tup_new h3.toSt0 (reps_cut l h r) o3⟩
    have ec : cutD ds l h = ds := by
      unfold cutD
      rw [r.length, e.1, e.2, List.drop_zero, Nat.sub_zero, ← r.length, List.take_length]
    have o3' : OutG X.K X.mg (SvAt X.K X.mg) Wx W3 H3 σ (.ok (.val (.tup (cutD ds l h))) m3) Q := o3
    rw [ec] at o3'
    exact o3'.fin h3.toSt0 hr
end
end Dp
end

section
set_option Elab.async false
set_option linter.all false
set_option maxRecDepth 100000
set_option maxHeartbeats 1000000
/-! The deep layer, part 6: built-in functions. -/
namespace Dp
open PySem PySem.Spec PyProof.Rows L2

/-! ### lists of ints in order -/
theorem insI_perm (x : Int) : ∀ l, (insI x l).Perm (x :: l)
  | [] => List.Perm.refl _
  | y :: r => by
    unfold insI
    split
    · exact List.Perm.refl _
    · exact ((insI_perm x r).cons y).trans (List.Perm.swap x y r)
theorem sortI_perm : ∀ l, (sortI l).Perm l
  | [] => List.Perm.refl _
  | x :: r => (insI_perm x (sortI r)).trans ((sortI_perm r).cons x)
theorem insI_pw (x : Int) : ∀ l, l.Pairwise (· ≤ ·) → (insI x l).Pairwise (· ≤ ·)
  | [], _ => by
    unfold insI
    simp
  | y :: r, h => by
    unfold insI
    split
    · rename_i hx
      rw [List.pairwise_cons] at h ⊢
      refine ⟨fun z hz => ?_, List.pairwise_cons.mpr h⟩
      rcases List.mem_cons.mp hz with e | e
      · rw [e]; exact hx
      · exact Int.le_trans hx (h.1 z e)
    · rename_i hx
      rw [List.pairwise_cons] at h ⊢
      refine ⟨fun z hz => ?_, insI_pw x r h.2⟩
      rcases List.mem_cons.mp ((insI_perm x r).mem_iff.mp hz) with e | e
      · rw [e]; omega
      · exact h.1 z e
theorem sortI_pw : ∀ l, (sortI l).Pairwise (· ≤ ·)
  | [] => List.Pairwise.nil
  | x :: r => insI_pw x _ (sortI_pw r)
theorem sortI_eq {l l' : List Int} (p : l'.Perm l) (h : l'.Pairwise (· ≤ ·)) : l' = sortI l :=
  List.Perm.eq_of_pairwise (fun a b _ _ h1 h2 => Int.le_antisymm h1 h2) h (sortI_pw l) (p.trans (sortI_perm l).symm)
theorem sortI_rev {l l' : List Int} (p : l'.Perm l) (h : l'.Pairwise (· ≥ ·)) : l' = (sortI l).reverse := by
  have := sortI_eq (l := l) (l' := l'.reverse) ((List.reverse_perm _).trans p) (List.pairwise_reverse.mpr h)
  rw [← this, List.reverse_reverse]
theorem maxI_ok : ∀ (a : Int) (l : List Int), maxI a l ∈ a :: l ∧ ∀ y ∈ a :: l, y ≤ maxI a l
  | a, [] => ⟨by simp [maxI], fun y hy => by simp at hy; simp [maxI, hy]⟩
  | a, b :: r => by
    obtain ⟨h1, h2⟩ := maxI_ok (if b > a then b else a) r
    unfold maxI
    constructor
    · rcases List.mem_cons.mp h1 with e | e
      · split at e
        · rename_i hb
          rw [if_pos hb, e]
          simp
        · rename_i hb
          rw [if_neg hb, e]
          simp
      · exact List.mem_cons_of_mem _ (List.mem_cons_of_mem _ e)
    · intro y hy
      have h3 := h2 (if b > a then b else a) (by simp)
      rcases List.mem_cons.mp hy with e | hy
      · generalize maxI (if b > a then b else a) r = M at h3 ⊢
        split at h3 <;> omega
      · rcases List.mem_cons.mp hy with e | hy
        · generalize maxI (if b > a then b else a) r = M at h3 ⊢
          split at h3 <;> omega
        · exact h2 y (List.mem_cons_of_mem _ hy)
theorem minI_ok : ∀ (a : Int) (l : List Int), minI a l ∈ a :: l ∧ ∀ y ∈ a :: l, minI a l ≤ y
  | a, [] => ⟨by simp [minI], fun y hy => by simp at hy; simp [minI, hy]⟩
  | a, b :: r => by
    obtain ⟨h1, h2⟩ := minI_ok (if b < a then b else a) r
    unfold minI
    constructor
    · rcases List.mem_cons.mp h1 with e | e
      · split at e
        · rename_i hb
          rw [if_pos hb, e]
          simp
        · rename_i hb
          rw [if_neg hb, e]
          simp
      · exact List.mem_cons_of_mem _ (List.mem_cons_of_mem _ e)
    · intro y hy
      have h3 := h2 (if b < a then b else a) (by simp)
      rcases List.mem_cons.mp hy with e | hy
      · generalize minI (if b < a then b else a) r = M at h3 ⊢
        split at h3 <;> omega
      · rcases List.mem_cons.mp hy with e | hy
        · generalize minI (if b < a then b else a) r = M at h3 ⊢
          split at h3 <;> omega
        · exact h2 y (List.mem_cons_of_mem _ hy)
theorem maxI_eq {a m : Int} {l : List Int} (h : m ∈ a :: l) (k : ∀ y ∈ a :: l, y ≤ m) : m = maxI a l :=
  Int.le_antisymm ((maxI_ok a l).2 m h) (k _ (maxI_ok a l).1)
theorem minI_eq {a m : Int} {l : List Int} (h : m ∈ a :: l) (k : ∀ y ∈ a :: l, m ≤ y) : m = minI a l :=
  Int.le_antisymm (k _ (minI_ok a l).1) ((minI_ok a l).2 m h)
theorem reps_ints {K : PySem.W.Frag} {mg : Str → Option Value} {W : Wd} : ∀ l : List Int, Reps K mg W (l.map D.int) (l.map V.int)
  | [] => rfl
  | i :: l => ⟨_, _, rfl, rfl, reps_ints l⟩
theorem keysI_map : ∀ {ks : List Key} {l : List Int}, keysI ks = some l → ks = l.map Sum.inl
  | [], _, h => by cases h; rfl
  | .inl i :: r, _, h => by
    unfold keysI at h
    obtain ⟨q, e, e2⟩ := Option.map_eq_some_iff.mp h
    subst e2
    rw [keysI_map e]
    rfl
  | .inr _ :: _, _, h => by cases h

/-! ### views of arguments -/
inductive VwL (K : PySem.W.Frag) (mg : Str → Option Value) (W : Wd) (H : Hp) : List D → List V → Prop where
  | nil : VwL K mg W H [] []
  | cons {d : D} {v : V} {ds : List D} {vs : List V} : Vw K mg W H d v → VwL K mg W H ds vs → VwL K mg W H (d :: ds) (v :: vs)
theorem see_all {K : PySem.W.Frag} {mg : Str → Option Value} {W : Wd} {H0 H : Hp} {m : Mu} (x : St0 K mg W m H) {ds : List D} {vs : List V} (h : VwsAt K mg W H0 H ds vs) : VwL K mg W H (ds.map (seeD m)) vs := by
  induction h with
  | nil => exact .nil
  | cons h _ ih => exact .cons (see x h) ih
theorem VwL.one {K : PySem.W.Frag} {mg : Str → Option Value} {W : Wd} {H : Hp} {d : D} {vs : List V} (h : VwL K mg W H [d] vs) : ∃ v, vs = [v] ∧ Vw K mg W H d v := by
  cases h with
  | cons h t => cases t; exact ⟨_, rfl, h⟩
theorem VwL.two {K : PySem.W.Frag} {mg : Str → Option Value} {W : Wd} {H : Hp} {d e : D} {vs : List V} (h : VwL K mg W H [d, e] vs) : ∃ v u, vs = [v, u] ∧ Vw K mg W H d v ∧ Vw K mg W H e u := by
  cases h with
  | cons h t =>
    cases t with
    | cons k t => cases t; exact ⟨_, _, rfl, h, k⟩
section
variable {X : Cx} {Wx : WX}
theorem CallR.or {f : Value} {r1 r2 : List V → Hp → VK → Prop} (h1 : CallR X f r1) (h2 : CallR X f r2) : CallR X f (fun xs H Q => r1 xs H Q ∨ r2 xs H Q) := by
  intro pins s σ H xs us Q I r h
  rcases h with h | h
  · exact h1 pins s σ H xs us Q I r h
  · exact h2 pins s σ H xs us Q I r h
def FOk (X : Cx) (Wx : WX) (f : Value) (g : List D → Mu → R SV) : Prop :=
  ∃ r : List V → Hp → VK → Prop, CallR X f r ∧ ∀ (W : Wd) (m : Mu) (σ : L2.St) (H : Hp) (Q : VK) (ds : List D) (vs : List V), St0 X.K X.mg W m H → VwL X.K X.mg W H ds vs → OutG X.K X.mg (SvAt X.K X.mg) Wx W H σ (g ds m) Q → r vs H Q
def bfVal : BF → Value
  | .len => .builtin "len" | .int => .type "int" | .abs => .builtin "abs" | .min => .builtin "min" | .max => .builtin "max" | .tuple => .type "tuple" | .list => .type "list" | .sum => .builtin "sum"
  | .sorted => .builtin "sorted" | .sortedR => .builtin "sorted" | .all => .builtin "all" | .any => .builtin "any" | .divmod => .builtin "divmod"
/-- a list or a tuple, by its view -/
theorem Vw.sq {W : Wd} {H : Hp} {v : V} {ds : List D} {d : D} (x : Same W.Hf H) (h : Vw X.K X.mg W H d v) (e : d = .lst ds ∨ d = .seq ds) : ∃ a vs, v = .ref a ∧ SqL X.K H a vs ∧ Reps X.K X.mg W ds vs := by
  rcases e with rfl | rfl
  · obtain ⟨a, vs, e, h, r⟩ := h.lst x
    exact ⟨a, vs, e, SqL.of h, r⟩
  · exact h.seq x
theorem opF_len : FOk X Wx (.builtin "len") (opF .len) := by
  refine ⟨_, CallR.or call_len_seq call_lenD, fun W m σ H Q ds vs st hv o => ?_⟩
  unfold opF at o
  split at o <;> (try (rename_i e; cases e; done)) <;> (try exact o.elim)
  all_goals obtain ⟨v, rfl, hw⟩ := hv.one
  · obtain ⟨a, vs, rfl, h, r⟩ := hw.tup st.sub
    exact .inl ⟨a, vs, rfl, .inr h, by rw [← r.length]; exact o.fin st rfl⟩
  · obtain ⟨a, vs, rfl, h, r⟩ := hw.lst st.sub
    exact .inl ⟨a, vs, rfl, .inl (SqL.of h), by rw [← r.length]; exact o.fin st rfl⟩
  · obtain ⟨a, vs, rfl, h, r⟩ := hw.seq st.sub
    exact .inl ⟨a, vs, rfl, .inl h, by rw [← r.length]; exact o.fin st rfl⟩
  · obtain ⟨a, vs, rfl, h, n, r⟩ := hw.dk st.sub
    exact .inr ⟨a, _, rfl, h, by rw [List.length_zip, ← r.length, n, Nat.min_self, ← n]; exact o.fin st rfl⟩
theorem opF_int : FOk X Wx (.type "int") (opF .int) := by
  refine ⟨_, call_int1, fun W m σ H Q ds vs st hv o => ?_⟩
  unfold opF at o
  split at o <;> (try (rename_i e; cases e; done)) <;> (try exact o.elim)
  all_goals obtain ⟨v, rfl, hw⟩ := hv.one
  · cases hw.int
    exact .inl ⟨_, rfl, o.fin st rfl⟩
  · cases hw.bl
    exact .inr ⟨_, rfl, o.fin st rfl⟩
theorem opF_abs : FOk X Wx (.builtin "abs") (opF .abs) := by
  refine ⟨_, call_abs, fun W m σ H Q ds vs st hv o => ?_⟩
  unfold opF at o
  split at o <;> (try (rename_i e; cases e; done)) <;> (try exact o.elim)
  obtain ⟨v, rfl, hw⟩ := hv.one
  cases hw.int
  exact ⟨_, rfl, o.fin st rfl⟩
theorem opF_max (hc : X.calm = true) : FOk X Wx (.builtin "max") (opF .max) := by
  refine ⟨_, CallR.or (call_max2 hc) (cr_max hc), fun W m σ H Q ds vs st hv o => ?_⟩
  unfold opF at o
  split at o <;> (try (rename_i e; cases e; done)) <;> (try exact o.elim)
  · obtain ⟨v, u, rfl, hw, hu⟩ := hv.two
    cases hw.int
    cases hu.int
    exact .inl ⟨_, _, rfl, o.fin st rfl⟩
  · obtain ⟨v, rfl, hw⟩ := hv.one
    split at o
    · rename_i ds a l e
      obtain ⟨p, vs, rfl, h, r⟩ := hw.lst st.sub
      have ev := nums_vals r e
      subst ev
      refine .inr ⟨p, _, rfl, SqL.of h, by simp, fun m h1 h2 => ?_⟩
      rw [maxI_eq h1 h2]
      exact o.fin st rfl
    · exact o.elim
theorem opF_min (hc : X.calm = true) : FOk X Wx (.builtin "min") (opF .min) := by
  refine ⟨_, CallR.or (call_min2 hc) (cr_min hc), fun W m σ H Q ds vs st hv o => ?_⟩
  unfold opF at o
  split at o <;> (try (rename_i e; cases e; done)) <;> (try exact o.elim)
  · obtain ⟨v, u, rfl, hw, hu⟩ := hv.two
    cases hw.int
    cases hu.int
    exact .inl ⟨_, _, rfl, o.fin st rfl⟩
  · obtain ⟨v, rfl, hw⟩ := hv.one
    split at o
    · rename_i ds a l e
      obtain ⟨p, vs, rfl, h, r⟩ := hw.lst st.sub
      have ev := nums_vals r e
      subst ev
      refine .inr ⟨p, _, rfl, SqL.of h, by simp, fun m h1 h2 => ?_⟩
      rw [minI_eq h1 h2]
      exact o.fin st rfl
    · exact o.elim
theorem opF_tuple : FOk X Wx (.type "tuple") (opF .tuple) := by
  refine ⟨_, call_tuple_of, fun W m σ H Q ds vs st hv o => ?_⟩
  unfold opF at o
  split at o <;> (try (rename_i e; cases e; done)) <;> (try exact o.elim)
  all_goals obtain ⟨v, rfl, hw⟩ := hv.one
  · obtain ⟨a, vs, rfl, h, r⟩ := hw.lst st.sub
    exact ⟨a, vs, rfl, .inl ⟨SqL.of h, tup_new st r o⟩⟩
  · obtain ⟨a, vs, rfl, h, r⟩ := hw.seq st.sub
    exact ⟨a, vs, rfl, .inl ⟨h, tup_new st r o⟩⟩
  · have hr := hw.tupR
    obtain ⟨a, vs, rfl, h, r⟩ := hw.tup st.sub
    exact ⟨a, vs, rfl, .inr ⟨h, o.fin st hr⟩⟩
/-- the key tuples are data from now on -/
theorem fz_keys {K : PySem.W.Frag} {mg : Str → Option Value} {m : Mu} {H : Hp} : ∀ {kvs : List (List Key × V)} {bs : List Addr} {W : Wd}, St0 K mg W m H → IsKeys H kvs bs → ∃ W2, St0 K mg W2 m H ∧ Step W H W2 H ∧ Reps K mg W2 (kvs.map fun p => .tup (p.1.map kD)) (bs.map V.ref)
  | [], bs, W, st, h => by
    cases h
    exact ⟨W, st, Step.refl W H, rfl⟩
  | (k, v) :: kvs, bs, W, st, h => by
    cases h with
    | @cons _ b _ bs hb ht =>
      have one : ∃ W1, St0 K mg W1 m H ∧ Step W H W1 H ∧ W1.Hf b = some (.tup (k.map kV)) := by
        cases e : W.Hf b with
        | some o =>
          have e2 := st.sub b o e
          rw [hb] at e2
          cases e2
          exact ⟨W, st, Step.refl W H, e⟩
        | none =>
          have nt : b ∉ W.th := fun z => by
            obtain ⟨i, hi, ei⟩ := List.getElem_of_mem z
            have hm : i < m.length := by rw [← st.len]; exact hi
            exact (st.cell i b m[i] (by rw [List.getElem?_eq_getElem hi, ei]) (List.getElem?_eq_getElem hm)).ntup hb _ rfl
          obtain ⟨x2, l2⟩ := st.freeze hb e nt
          refine ⟨_, x2, ⟨l2.sub, ⟨[], by simp, by simp⟩, fun _ _ h _ => h, fun c o h1 h2 h3 h4 => ?_⟩, upd_same⟩
          have ne : c ≠ b := fun z => by
            subst z
            rw [hb] at h1
            cases h1
            exact h4 _ rfl
          show upd W.Hf b _ c = none
          rw [upd_ne ne]
          exact h2
      obtain ⟨W1, st1, p1, e1⟩ := one
      obtain ⟨W2, st2, p2, r2⟩ := fz_keys st1 ht
      have rk : ∀ ks : List Key, Reps K mg W2 (ks.map kD) (ks.map kV) := by
        intro ks
        induction ks with
        | nil => rfl
        | cons q ks ih => exact ⟨_, _, rfl, by cases q <;> rfl, ih⟩
      exact ⟨W2, st2, p1.trans st1 p2, ⟨_, _, rfl, ⟨b, _, rfl, p2.sub _ _ e1, rk k⟩, r2⟩⟩
theorem opF_list (hc : X.calm = true) : FOk X Wx (.type "list") (opF .list) := by
  refine ⟨_, CallR.or call_list_of (call_list_dT hc), fun W m σ H Q ds vs st hv o => ?_⟩
  unfold opF at o
  split at o <;> (try (rename_i e; cases e; done)) <;> (try exact o.elim)
  all_goals obtain ⟨v, rfl, hw⟩ := hv.one
  · obtain ⟨a, vs, rfl, h, r⟩ := hw.lst st.sub
    exact .inl ⟨a, vs, rfl, .inl (SqL.of h), own_new (c := .lst _) st (fun p => ⟨_, upd_same, r⟩) o⟩
  · obtain ⟨a, vs, rfl, h, r⟩ := hw.seq st.sub
    exact .inl ⟨a, vs, rfl, .inl h, own_new (c := .lst _) st (fun p => ⟨_, upd_same, r⟩) o⟩
  · obtain ⟨a, vs, rfl, h, r⟩ := hw.tup st.sub
    exact .inl ⟨a, vs, rfl, .inr h, own_new (c := .lst _) st (fun p => ⟨_, upd_same, r⟩) o⟩
  · rename_i ks ds _
    obtain ⟨a, vs, rfl, h, n, r⟩ := hw.dt st.sub
    refine .inr ⟨a, _, rfl, h, fun p bs hp hk => ?_⟩
    obtain ⟨W2, st2, p2, r2⟩ := fz_keys st hk
    have e : ((ks.zip vs).map fun p => D.tup (p.1.map kD)) = ks.map fun k => .tup (k.map kD) := by
      have hl : ks.length = vs.length := n.trans r.length
      rw [show (fun p : List Key × V => D.tup (p.1.map kD)) = (fun k => D.tup (k.map kD)) ∘ Prod.fst from rfl, ← List.map_map, List.map_fst_zip (by omega)]
    rw [e] at r2
    obtain ⟨x3, p3, nf, nt⟩ := st2.made hp (.lst (bs.map V.ref))
    exact o.fin2 x3 (p2.trans st2 p3) ⟨p, rfl, ⟨⟨_, upd_same, r2⟩, nf, nt⟩, hp⟩
theorem opF_sum (hc : X.calm = true) : FOk X Wx (.builtin "sum") (opF .sum) := by
  refine ⟨_, CallR.or (cr_sum hc) (cr_sumT hc), fun W m σ H Q ds vs st hv o => ?_⟩
  unfold opF at o
  split at o <;> (try (rename_i e; cases e; done)) <;> (try exact o.elim)
  all_goals obtain ⟨v, rfl, hw⟩ := hv.one
  · split at o
    · rename_i l e
      obtain ⟨p, vs, rfl, h, r⟩ := hw.tup st.sub
      have ev := nums_vals r e
      subst ev
      exact .inr ⟨p, _, rfl, h, o.fin st rfl⟩
    · exact o.elim
  · split at o
    · rename_i l e
      obtain ⟨p, vs, rfl, h, r⟩ := hw.lst st.sub
      have ev := nums_vals r e
      subst ev
      exact .inl ⟨p, _, rfl, SqL.of h, o.fin st rfl⟩
    · exact o.elim
theorem opF_divmod : FOk X Wx (.builtin "divmod") (opF .divmod) := by
  refine ⟨_, call_divmod, fun W m σ H Q ds vs st hv o => ?_⟩
  unfold opF at o
  split at o <;> (try (rename_i e; cases e; done)) <;> (try exact o.elim)
  obtain ⟨g, o⟩ := guard_t o
  simp only [Bool.and_eq_true, decide_eq_true_eq] at g
  obtain ⟨v, u, rfl, hw, hu⟩ := hv.two
  refine ⟨_, _, by rw [hw.int, hu.int], g, ?_⟩
  rename_i i j _ _
  exact tup_new (ds := [.int (i / j), .int (i % j)]) (vs := [.int (i / j), .int (i % j)]) st ⟨_, _, rfl, rfl, _, _, rfl, rfl, rfl⟩ o
theorem opF_all (hc : X.calm = true) : FOk X Wx (.builtin "all") (opF .all) := by
  refine ⟨_, cr_all hc, fun W m σ H Q ds vs st hv o => ?_⟩
  unfold opF at o
  split at o <;> (try (rename_i e; cases e; done)) <;> (try exact o.elim)
  obtain ⟨v, rfl, hw⟩ := hv.one
  split at o
  · rename_i l e
    obtain ⟨p, vs, rfl, h, r⟩ := hw.lst st.sub
    have ev := bls_vals r e
    subst ev
    exact ⟨p, _, rfl, SqL.of h, o.fin st rfl⟩
  · exact o.elim
theorem opF_any (hc : X.calm = true) : FOk X Wx (.builtin "any") (opF .any) := by
  refine ⟨_, cr_any hc, fun W m σ H Q ds vs st hv o => ?_⟩
  unfold opF at o
  split at o <;> (try (rename_i e; cases e; done)) <;> (try exact o.elim)
  obtain ⟨v, rfl, hw⟩ := hv.one
  split at o
  · rename_i l e
    obtain ⟨p, vs, rfl, h, r⟩ := hw.lst st.sub
    have ev := bls_vals r e
    subst ev
    exact ⟨p, _, rfl, SqL.of h, o.fin st rfl⟩
  · exact o.elim
theorem pys_all {W : Wd} : ∀ {ds : List D} {ps : List PyData}, D.pys ds = some ps → ds.length = ps.length ∧ ∀ (i : Nat) (d : D) (p : PyData), ds[i]? = some d → ps[i]? = some p → D.py d = some p
  | [], ps, h => by
    cases h
    exact ⟨rfl, fun i d p e => by simp at e⟩
  | d :: ds, ps, h => by
    unfold D.pys at h
    obtain ⟨p, e1, h⟩ := Option.bind_eq_some_iff.mp h
    obtain ⟨qs, e2, e3⟩ := Option.map_eq_some_iff.mp h
    subst e3
    obtain ⟨l, k⟩ := pys_all (W := W) e2
    refine ⟨by rw [List.length_cons, List.length_cons, l], fun i d' p' h1 h2 => ?_⟩
    cases i with
    | zero => cases h1; cases h2; exact e1
    | succ i => exact k i d' p' (by simpa using h1) (by simpa using h2)
theorem pys_map : ∀ {ds : List D} {ps : List PyData}, D.pys ds = some ps → ps = ds.map pyD
  | [], ps, h => by cases h; rfl
  | d :: ds, ps, h => by
    unfold D.pys at h
    obtain ⟨p, e1, h⟩ := Option.bind_eq_some_iff.mp h
    obtain ⟨qs, e2, e3⟩ := Option.map_eq_some_iff.mp h
    subst e3
    rw [List.map_cons, ← pys_map e2]
    unfold pyD
    rw [e1]
    rfl
/-- values and their data, sorted together -/
theorem sort_reps {K : PySem.W.Frag} {mg : Str → Option Value} {W : Wd} {ds : List D} {vs : List V} (r : Reps K mg W ds vs) : Reps K mg W (srtD ds) (((vs.zip (ds.map pyD)).mergeSort fun a b => ltData a.2 b.2).map (·.1)) := by
  have hl := r.length
  have e1 : vs.zip (ds.map pyD) = (vs.zip ds).map fun q => (q.1, pyD q.2) := by
    rw [List.zip_map_right]
    rfl
  have e2 : ((vs.zip ds).mergeSort fun a b => ltData (pyD a.2) (pyD b.2)).map (fun q => (q.1, pyD q.2)) = ((vs.zip ds).map fun q => (q.1, pyD q.2)).mergeSort fun a b => ltData a.2 b.2 := List.map_mergeSort fun a _ b _ => rfl
  have e3 : ((vs.zip ds).mergeSort fun a b => ltData (pyD a.2) (pyD b.2)).map (fun q => q.2) = ((vs.zip ds).map fun q => q.2).mergeSort fun a b => ltData (pyD a) (pyD b) := List.map_mergeSort fun a _ b _ => rfl
  rw [List.map_snd_zip (by omega)] at e3
  rw [e1, ← e2, List.map_map]
  show Reps K mg W (ds.mergeSort fun a b => ltData (pyD a) (pyD b)) _
  rw [← e3]
  have key : ∀ l : List (V × D), (∀ q ∈ l, Rep K mg W q.2 q.1) → Reps K mg W (l.map fun q => q.2) (l.map ((·.1) ∘ fun q : V × D => (q.1, pyD q.2))) := by
    intro l
    induction l with
    | nil => intro _; rfl
    | cons q l ih => exact fun h => Reps.cons (h q (by simp)) (ih fun z hz => h z (by simp [hz]))
  refine key _ fun q hq => ?_
  have hq' := (List.mergeSort_perm _ _).mem_iff.mp hq
  obtain ⟨i, hi, e⟩ := List.getElem_of_mem hq'
  have e' : (vs.zip ds)[i]? = some (q.1, q.2) := by rw [List.getElem?_eq_getElem hi, e]
  rw [List.getElem?_zip_eq_some] at e'
  obtain ⟨w, h1, h2⟩ := r.get e'.2
  rw [e'.1] at h1
  cases h1
  exact h2
def srtOk (ds : List D) : Prop := ∃ ps, D.pys ds = some ps ∧ PySem.W.AllAlike ps ∧ PySem.W.Sortable ps ∧ ∀ p ∈ ps, p.depth ≤ 60
theorem ltd_trans (x y z : PyData) (h1 : ltData x y = true) (h2 : ltData y z = true) : ltData x z = true := by
  unfold ltData at *
  rw [Bool.not_eq_true'] at *
  cases h : PySem.W.dataLt z x with
  | false => rfl
  | true =>
    rcases PyProof.Rows.lex_negTrans _ (PySem.W.keyToks y) _ h with q | q
    · have q' : PySem.W.dataLt z y = true := q
      rw [h2] at q'
      cases q'
    · have q' : PySem.W.dataLt y x = true := q
      rw [h1] at q'
      cases q'
theorem ltd_total (x y : PyData) : (ltData x y || ltData y x) = true := by
  unfold ltData
  cases h : PySem.W.dataLt y x with
  | false => rfl
  | true =>
    cases h2 : PySem.W.dataLt x y with
    | false => rfl
    | true =>
      have q := PyProof.Rows.lex_trans _ _ _ h h2
      rw [PyProof.Rows.lex_irrefl] at q
      cases q
theorem insD_pw (x : D) : ∀ l : List D, l.Pairwise (fun a b => ltData (pyD a) (pyD b) = true) → (insD x l).Pairwise (fun a b => ltData (pyD a) (pyD b) = true) ∧ ∀ z ∈ insD x l, z = x ∨ z ∈ l
  | [], _ => ⟨List.pairwise_singleton _ _, fun z hz => by simpa [insD] using hz⟩
  | y :: r, h => by
    obtain ⟨h1, h2⟩ := List.pairwise_cons.mp h
    obtain ⟨i1, i2⟩ := insD_pw x r h2
    unfold insD
    split
    · rename_i e
      refine ⟨List.pairwise_cons.mpr ⟨fun z hz => ?_, h⟩, fun z hz => by simpa using hz⟩
      rcases List.mem_cons.mp hz with rfl | hz
      · exact e
      · exact ltd_trans _ _ _ e (h1 z hz)
    · rename_i e
      refine ⟨List.pairwise_cons.mpr ⟨fun z hz => ?_, i1⟩, fun z hz => ?_⟩
      · rcases i2 z hz with rfl | hz
        · have := ltd_total (pyD z) (pyD y)
          rw [Bool.or_eq_true] at this
          exact this.resolve_left e
        · exact h1 z hz
      · rcases List.mem_cons.mp hz with rfl | hz
        · exact .inr (by simp)
        · exact (i2 z hz).imp id fun q => by simp [q]
theorem isrtD_pw : ∀ l : List D, (isrtD l).Pairwise (fun a b => ltData (pyD a) (pyD b) = true)
  | [] => .nil
  | x :: r => (insD_pw x _ (isrtD_pw r)).1
theorem insD_filter (z x : D) : ∀ l : List D, l.Pairwise (fun a b => ltData (pyD a) (pyD b) = true) → (insD x l).filter (PySem.W.Srt.alike (fun a b => ltData (pyD a) (pyD b)) z) = (x :: l).filter (PySem.W.Srt.alike (fun a b => ltData (pyD a) (pyD b)) z)
  | [], _ => rfl
  | y :: r, h => by
    unfold insD
    split
    · rfl
    · rename_i e
      have ih := insD_filter z x r (List.pairwise_cons.mp h).2
      by_cases hx : PySem.W.Srt.alike (fun a b => ltData (pyD a) (pyD b)) z x = true
      · have hy : ¬ PySem.W.Srt.alike (fun a b => ltData (pyD a) (pyD b)) z y = true := fun hy => by
          unfold PySem.W.Srt.alike at hx hy
          rw [Bool.and_eq_true] at hx hy
          exact e (ltd_trans _ _ _ hx.2 hy.1)
        rw [List.filter_cons_of_neg hy, ih, List.filter_cons_of_pos hx, List.filter_cons_of_pos hx, List.filter_cons_of_neg hy]
      · rw [List.filter_cons_of_neg hx, List.filter_cons, List.filter_cons, ih, List.filter_cons_of_neg hx]
theorem isrtD_filter (z : D) : ∀ l : List D, (isrtD l).filter (PySem.W.Srt.alike (fun a b => ltData (pyD a) (pyD b)) z) = l.filter (PySem.W.Srt.alike (fun a b => ltData (pyD a) (pyD b)) z)
  | [] => rfl
  | x :: r => by
    show (insD x (isrtD r)).filter _ = _
    rw [insD_filter z x _ (isrtD_pw r), List.filter_cons, List.filter_cons, isrtD_filter z r]
theorem isrtD_eq (l : List D) : isrtD l = srtD l :=
  PySem.W.Srt.the (fun a b : D => ltData (pyD a) (pyD b)) (fun x y z => ltd_trans _ _ _) (fun x y => ltd_total _ _) (isrtD_pw l) fun z => isrtD_filter z l
theorem srtB_ok {ds : List D} (h : srtB ds = true) : srtOk ds := by
  unfold srtB at h
  split at h
  · rename_i ps e
    simp only [Bool.and_eq_true, Bool.or_eq_true, List.all_eq_true, decide_eq_true_eq] at h
    obtain ⟨h1, h2, h3⟩ := h
    refine ⟨ps, e, fun d hd d' hd' => h1 d hd d' hd', h2.imp (fun q d hd => ?_) (fun q d hd => ?_), h3⟩
    · have := q d hd
      unfold tupB at this
      split at this
      · exact ⟨_, _, rfl⟩
      · cases this
    · have := q d hd
      refine ⟨fun z => ?_, fun xs z => ?_⟩ <;> (rw [z] at this; cases this)
  · cases h
theorem opF_sorted (hu : X.A.units + 65 < cLine) : FOk X Wx (.builtin "sorted") (opF .sorted) := by
  refine ⟨_, CallR.or cr_sortedI (cr_sortedD hu), fun W m σ H Q ds vs st hv o => ?_⟩
  unfold opF at o
  split at o <;> (try (rename_i e; cases e; done)) <;> (try exact o.elim)
  obtain ⟨v, rfl, hw⟩ := hv.one
  split at o
  · rename_i l e
    obtain ⟨p, vs, rfl, h, r⟩ := hw.lst st.sub
    have ev := nums_vals r e
    subst ev
    refine .inl ⟨p, _, rfl, SqL.of h, fun ns' q hp hs hq => ?_⟩
    rw [sortI_eq hp hs]
    exact own_new (c := .lst _) st (fun p => ⟨_, upd_same, reps_ints _⟩) o q hq
  · unfold srtR at o
    split at o
    · rename_i hok
      obtain ⟨ps, e, h1, h2, h3⟩ := srtB_ok hok
      rw [isrtD_eq] at o
      obtain ⟨p, vs, rfl, h, r⟩ := hw.lst st.sub
      obtain ⟨l, _⟩ := pys_all (W := W) e
      refine .inr ⟨p, vs, ps, rfl, SqL.of h, reps_dp st.sub _ vs ps r e, by rw [← r.length, l], h1, h2, h3, ?_⟩
      rw [pys_map e]
      exact own_new (c := .lst _) st (fun p => ⟨_, upd_same, sort_reps r⟩) o
    · exact o.elim
theorem opF_ok (hc : X.calm = true) (hu : X.A.units + 65 < cLine) (f : BF) (hf : f ≠ .sortedR) : FOk X Wx (bfVal f) (opF f) := by
  cases f with
  | len => exact opF_len
  | int => exact opF_int
  | abs => exact opF_abs
  | min => exact opF_min hc
  | max => exact opF_max hc
  | tuple => exact opF_tuple
  | list => exact opF_list hc
  | sum => exact opF_sum hc
  | sorted => exact opF_sorted hu
  | sortedR => exact absurd rfl hf
  | all => exact opF_all hc
  | any => exact opF_any hc
  | divmod => exact opF_divmod
def bfName : BF → String
  | .len => "len" | .int => "int" | .abs => "abs" | .min => "min" | .max => "max" | .tuple => "tuple" | .list => "list" | .sum => "sum" | .sorted => "sorted" | .sortedR => "sorted" | .all => "all" | .any => "any" | .divmod => "divmod"
theorem bf_boot (f : BF) : bootBuiltins (Str.ofString (bfName f)) = some (bfVal f) := by
  cases f <;> kernel_rfl
theorem de_bif (hc : X.calm = true) (hu : X.A.units + 65 < cLine) {f : BF} (hf : f ≠ .sortedR) {e : Expr} {es : List Expr} {p pos : Pos} {fa : Sl → Mu → R (List D)} (hg : Gl X (Str.ofString (bfName f))) (hm : X.mg (Str.ofString (bfName f)) = none)
    (ha : PA X (e :: es) (tLP X Wx fa)) (he : starEach (e :: es) X.env = (false, eval e X.env) :: starEach es X.env) (hpl : (backTo pos (starEach es X.env)).any (·.1) = false) :
    PE X (.Call (.Name (Str.ofString (bfName f)) p) (e :: es) [] pos) (tS X Wx fun s m => (fa s m).bind fun ds m1 => opF f (ds.map (seeD m1)) m1) := by
  obtain ⟨r, hr, hq⟩ := opF_ok (X := X) (Wx := Wx) hc hu f hf
  have key : PE X (.Call (.Name (Str.ofString (bfName f)) p) (e :: es) [] pos) (tCB r (tLP X Wx fa)) := by
    have hb := bf_boot f
    cases f <;> first
      | exact pe_callB hr hg hm hb ha (by decide) (by decide) he hpl
      | exact pe_callTy hr hg hm hb ha (by decide) (by decide) he hpl
  refine pe_imp key fun σ H Q ⟨W, s, m, hs, o⟩ => ?_
  refine run rb_sv hs o fun x m1 W1 v H1 _ h1 p1 av o1 => ?_
  exact hq W1 m1 σ H1 Q _ _ h1.toSt0 (see_all h1.toSt0 av) o1
end
end Dp
end

section
set_option Elab.async false
set_option linter.all false
set_option maxRecDepth 100000
set_option maxHeartbeats 1000000
/-! The deep layer, part 7: sorted of a dict in reverse, isinstance. -/
namespace Dp
open PySem PySem.Spec PyProof.Rows L2
section
variable {X : Cx} {Wx : WX}
/-- sorted(d, reverse=True) of a dict with fewer than 64 keys, all ints -/
theorem cr_sortedDR (hcalm : X.calm = true) : CallRK X (.builtin "sorted") [Str.ofString "reverse"] (fun xs zs H Q => ∃ (a : Addr) (kvs : List (Key × V)) (ks : List Int), xs = [.ref a] ∧ zs = [.bl true] ∧ H a = some (.dK kvs) ∧ kvs.map (·.1) = ks.map Sum.inl ∧ ks.length < 64 ∧
    ∀ (ys : List Int) (p : Addr), ys.Perm ks → ys.Pairwise (· ≥ ·) → H p = none → Q (.ref p) (upd H p (.lst (ys.map V.int)))) := by
  intro pins s σ H xs zs us ws Q I r rz q
  obtain ⟨a, kvs, ks, rfl, rfl, hd, hks, h64, q⟩ := q
  obtain ⟨u, rfl, rx⟩ := vals1 r
  obtain ⟨w1, rfl, e1⟩ := vals1 rz
  obtain rfl : w1 = Value.bool true := e1
  cases rx
  obtain ⟨z, lo, vs, rel, dd⟩ := dk_rd I.hok (.inl hd)
  obtain ⟨ep, hat⟩ := dd.dictAt
  have hkeys : vs.map (·.1) = ks.map Sum.inl := rel.keys.symm.trans hks
  have hl : vs.length = ks.length := by
    have e := congrArg List.length hkeys
    rw [List.length_map, List.length_map] at e
    exact e
  have h16 : vs.length ≤ sizeLine := by rw [hl, sizeLine_eq]; omega
  show wpAny _ _ (call (.builtin "sorted") [.ref a] [(Str.ofString "reverse", Value.bool true)]) _ _ _
  refine call_function_entry_kw PyProof.Rows.kind_sorted PyProof.Rows.plain_sorted PyProof.Rows.entry_sorted (PyProof.Rows.args_sorted_rev _ _) ?_
  unfold Builtin.«sorted»
  refine wpAny_bind (m := checkCount "sorted" 1 1 _) (wpAny_pure ?_)
  refine wpAny_bind (PySem.W.kdu_collect (A := X.A.in1) (PySem.W.kdl_dict (knd := mixKind X.prog X.w) (kvs := vs) (ep := ep) lo) (I.ok.hd hcalm) hat h16 fun h' tk acc hk hacc => ?_)
  have hal : acc.toList.length = ks.length := by rw [Array.length_toList, hacc.1, hl]
  have hS : IntsAre acc.toList ks := ints_each hal fun j v e => by
    obtain ⟨k, x, e1, e2⟩ := hacc.2 j v (by rw [← Array.getElem?_toList]; exact e)
    have e3 : (vs.map (·.1))[j]? = some k := by rw [List.getElem?_map, e1]; rfl
    rw [hkeys, List.getElem?_map] at e3
    cases e4 : ks[j]? with
    | none => rw [e4] at e3; cases e3
    | some y =>
      rw [e4] at e3
      have e5 : Sum.inl y = k := Option.some.inj e3
      subst e5
      rcases keyIs_shape (show keyIs (Sum.inl y) v = true from e2) with ⟨i, t, ek, ev⟩ | ⟨z, t, ek, ev⟩
      · cases ek
        exact ⟨y, t, rfl, ev⟩
      · cases ek
  have I1 : L2.Inv X pins σ H { s with heap := h', toks := tk } := I.kept hk
  have hz : acc.toList.length ≤ sizeLine := by rw [hal, sizeLine_eq]; omega
  refine wpAny_bind (wpAny_newList ?_ hz)
  have hoL : (h'.push (seqObj "list" acc.toList.toArray 0)).get? h'.objs.size = some (seqObj "list" acc.toList.toArray 0) := Heap.get?_push_size _ rfl
  show wpAny _ _ _ _ _ { s with heap := h'.push (seqObj "list" acc.toList.toArray 0), toks := tk }
  refine wpAny_bind (wpAny_holding (wpAny_call_entry_kw PyProof.Rows.slot_list_sort ⟨_, hoL, rfl⟩ PyProof.Rows.entry_list_sort ?_ (PyProof.Rows.args_list_sort_rev _ _)))
  refine SrtR.list_sort_ordR (b := true) SrtO.swo_int hoL hz (fun h2 => SrtO.ints_sortable hS h2) fun out hs hb => ⟨_, rfl, ?_⟩
  obtain ⟨ys, g1, g2, g3⟩ := SrtR.ints_outR (b := true) hS hs hb
  obtain ⟨e', he'⟩ := PyProof.Rows.sortedHeap_at (vs := acc.toList) (out := out.toArray.reverse) hoL
  have hlen : (ys.map V.int).length ≤ sizeLine := by
    rw [List.length_map, g2.length_eq]
    exact Nat.le_trans (Nat.le_of_lt h64) (by decide)
  refine wpAny_pure ⟨_, rfl, .ref h'.objs.size, upd H h'.objs.size (.lst (ys.map V.int)), I1.laid (t' := tk) (fun b u e => ?_) (Nat.le_refl _)
    (show ObjOk X.prog X.w _ _ _ (.lst (ys.map V.int)) from ⟨hlen, out.toArray.reverse.toList, e', vals_of_ints g1, by rw [Array.toArray_toList]; exact he'⟩), rfl, q ys _ g2 g3 (I1.hok.fresh (Nat.le_refl _))⟩
  have hb : b < h'.objs.size := Heap.lt_size e
  show (sortedHeap (h'.push (seqObj "list" acc.toList.toArray 0)) h'.objs.size acc.toList out.toArray.reverse).get? b = some u
  rw [PyProof.Rows.sortedHeap_old (Nat.ne_of_lt hb) (by rw [size_push']; exact Nat.lt_succ_of_lt hb)]
  exact Heap.get?_push_of_some _ e
end
end Dp
end

section
set_option Elab.async false
set_option linter.all false
set_option maxRecDepth 100000
set_option maxHeartbeats 1000000
/-! The deep layer, part 8: what the text gives; isinstance; sorted in reverse; stars. -/
namespace Dp
open PySem PySem.Spec PyProof.Rows L2
/-! ### what the text gives -/
def tyV (K : PySem.W.Frag) : Ty → Value
  | .bt n => .type n
  | .own c => .ref (He.ga K c)
/-- a class whose instances isinstance looks at -/
structure ClsOk (K : PySem.W.Frag) (C : Addr) : Prop where
  cls : Cls K C
  c1 : PySem.W.findIn K (.ref C) "__class__" = some (some (.builtin "object.__class__"))
  c2 : PySem.W.specialIn K (.builtin "object.__class__") "__get__" = some (some (.builtin "getset_descriptor.__get__"))
  c3 : PySem.W.takesIn K (.builtin "object.__class__") = some true
  c4 : PySem.W.mroIn K C (.type "object") = some true
def bltNames : List String := ["len", "int", "abs", "min", "max", "tuple", "list", "sum", "sorted", "all", "any", "isinstance", "range", "enumerate", "zip", "reversed", "bool", "str", "dict", "divmod"]
/-- a classmethod's, a property's record stands for its def -/
def unw (K : PySem.W.Frag) (a : Addr) : Addr := match PySem.W.recIn K a "classmethod" with
  | some (.ref f :: _) => f
  | _ => match PySem.W.recIn K a "property" with
    | some (.ref f :: _) => f
    | _ => a
/-- where a def stands -/
def fAw (K : PySem.W.Frag) (p : Str × Option Str) : Addr := match p.2 with
  | none => He.ga K p.1
  | some m => unw K (He.ma K (He.ga K p.1) m)
/-- an own operator: with one of its kind, with an int -/
structure OpOw (K : PySem.W.Frag) (C : Addr) (op : Operator) (f : Addr) : Prop where
  cls : Cls K C
  sf : PySem.W.selfFirst K C = true
  at_ : PySem.W.findIn K (.ref C) (PySem.dunder op.info.2) = some (some (.ref f))
  fn : PySem.W.isFn K (.ref f) = true
  rr : ∃ rc, PySem.W.findIn K (.ref C) (dunderR op.info.2) = some rc ∧ (rc = none ∨ ∃ g : Addr, rc = some (.ref g))
  i1 : ∃ fo, PySem.W.findIn K (.type "int") (PySem.dunder op.info.2) = some fo
  i2 : ∃ ro, PySem.W.findIn K (.type "int") (dunderR op.info.2) = some ro
  isb : PySem.W.subIn K (.type "int") (.ref C) = some false
def boOp' : BO → Operator := boOp
structure Fx (G : Prog) (K : PySem.W.Frag) (mg : Str → Option Value) : Prop where
  blt : ∀ x ∈ bltNames, mg (Str.ofString x) = none
  gint : ∀ p ∈ G.gints, ∃ u, mg p.1 = some u ∧ RelV (.int p.2) u
  cls : ∀ c ∈ G.clss, mg c = some (.ref (He.ga K c)) ∧ ClsOk K (He.ga K c)
  fld : ∀ p ∈ G.flds, Cls K (He.ga K p.1) ∧ ∀ f ∈ p.2, NoAttr K (He.ga K p.1) f
  subc : ∀ p ∈ G.subs, ∀ c, p.1.1 = .own c → c ∈ G.clss
  glo : ∀ f ∈ G.fns, f.at_.2 = none → mg f.at_.1 = some (.ref (He.ga K f.at_.1))
  mets : ∀ p ∈ G.mets, ∃ f, G.fns[p.2]? = some f ∧ Cls K (He.ga K p.1.1) ∧ Meth K (He.ga K p.1.1) p.1.2 (fAw K f.at_)
  news : ∀ p ∈ G.news, ∃ f, G.fns[p.2]? = some f ∧ Mk K (He.ga K p.1) (fAw K f.at_) ∧ mg p.1 = some (.ref (He.ga K p.1))
  cms : ∀ p ∈ G.cms, ∃ f, G.fns[p.2]? = some f ∧ mg p.1.1 = some (.ref (He.ga K p.1.1)) ∧ ClX.CRead K (He.ga K p.1.1) (.type "type") ∧ ∃ q, ClX.CMet K (He.ga K p.1.1) (.type "type") p.1.2 q (fAw K f.at_)
  props : ∀ p ∈ G.props, ∃ f, G.fns[p.2]? = some f ∧ Cls K (He.ga K p.1.1) ∧ ∃ q, PropOf K (He.ga K p.1.1) p.1.2 q (fAw K f.at_)
  ops : ∀ p ∈ G.ops, ∃ f, G.fns[p.2]? = some f ∧ OpOw K (He.ga K p.1.1) (boOp p.1.2) (fAw K f.at_)
  sub : ∀ p ∈ G.subs, PySem.W.kitOne K (tyV K p.1.1) (tyV K p.1.2) = some p.2
theorem mem_of_lookup {α β : Type} [BEq α] [LawfulBEq α] {a : α} {b : β} : ∀ {l : List (α × β)}, l.lookup a = some b → (a, b) ∈ l
  | [], h => by cases h
  | (x, y) :: l, h => by
    by_cases e : a == x
    · rw [List.lookup_cons, e] at h
      cases h
      rw [eq_of_beq e]
      exact List.mem_cons_self
    · rw [List.lookup_cons, Bool.eq_false_iff.mpr e] at h
      exact List.mem_cons_of_mem _ (mem_of_lookup h)
theorem bt_tab : ∀ a ∈ ["NoneType", "bool", "int", "str", "tuple", "list", "dict"], ∀ b ∈ btNames, (a :: btNames).contains b = true → kitB a b = some (btSub a b) := by decide +kernel
section
variable {X : Cx} {Wx : WX} {G : Prog}
theorem lookup_eq {α : Type} {a : Ty × Ty} {b : α} : ∀ {l : List ((Ty × Ty) × α)}, l.lookup a = some b → (a, b) ∈ l
  | [], h => by cases h
  | (x, y) :: l, h => by
    by_cases e : a == x
    · rw [List.lookup_cons, e] at h
      cases h
      have e1 : a = x := by
        obtain ⟨a1, a2⟩ := a
        obtain ⟨x1, x2⟩ := x
        have e' : (a1 == x1 && a2 == x2) = true := e
        obtain ⟨e1, e2⟩ := Bool.and_eq_true_iff.mp e'
        rw [of_decide_eq_true e1, of_decide_eq_true e2]
      rw [e1]
      exact List.mem_cons_self
    · rw [List.lookup_cons, Bool.eq_false_iff.mpr e] at h
      exact List.mem_cons_of_mem _ (lookup_eq h)
theorem sub_ok {K : PySem.W.Frag} {mg : Str → Option Value} (F : Fx G K mg) {s t : Ty} {b : Bool} (hs : ∀ n, s = .bt n → n ∈ ["NoneType", "bool", "int", "str", "tuple", "list", "dict"]) (e : isSub G.subs s t = some b) : PySem.W.kitOne K (tyV K s) (tyV K t) = some b := by
  cases s with
  | bt n =>
    cases t with
    | bt k =>
      have e' : (if (n :: btNames).contains k = true then some (btSub n k) else none) = some b := e
      split at e'
      · rename_i hk
        cases e'
        by_cases hn : n = k
        · subst hn
          refine kit_ty ?_
          unfold kitB btSub
          simp
        · have hm : k ∈ btNames := by
            rw [List.contains_iff_mem] at hk
            rcases List.mem_cons.mp hk with e | e
            · exact absurd e.symm hn
            · exact e
          exact kit_ty (bt_tab n (hs n rfl) k hm hk)
      · cases e'
    | own k => exact F.sub _ (lookup_eq (b := b) e)
  | own n => cases t <;> exact F.sub _ (lookup_eq (b := b) e)
/-- a value's type -/
theorem ty_of (F : Fx G X.K X.mg) {W : Wd} {H : Hp} {d : D} {v : V} {s : Ty} (x : Same W.Hf H) (h : Vw X.K X.mg W H d v) (e : tyOfD d = some s) (hc : ∀ c, s = .own c → c ∈ G.clss) : TyX X.K H v (tyV X.K s) := by
  cases d <;> cases e
  case non => cases h.non; exact .base .non
  case bl => cases h.bl; exact .base (.bl _)
  case int => cases h.int; exact .base (.int _)
  case str => cases h.str; exact .base (.str _)
  case tup ds =>
    obtain ⟨a, vs, rfl, h, r⟩ := h.tup x
    rcases h with (h | ⟨o, h⟩) | ⟨o, its, n, h1, h2, _⟩
    · exact .base (.tup h)
    · exact .fTuple h
    · exact .kTuple h1 h2
  case lst ds =>
    obtain ⟨a, vs, rfl, h, r⟩ := h.lst x
    exact .base (.lst h)
  case seq ds =>
    obtain ⟨a, vs, rfl, h, r⟩ := h.seq x
    rcases h with (h | ⟨o, h⟩) | ⟨o, its, n, h1, h2, _⟩
    · exact .base (.lst h)
    · exact .base (.frz h)
    · exact .kList h1 h2
  case dk ks ds =>
    obtain ⟨a, vs, rfl, h, n, r⟩ := h.dk x
    exact .base (.dK h)
  case gl z =>
    rcases h with ⟨a, rfl, hs, _⟩ | ⟨c, a, e, _⟩
    · rcases hs with (hs | ⟨o, hs⟩) | ⟨o, its, n, h1, h2, _⟩
      · cases hs
      · cases hs
      · exact .kTuple h1 h2
    · cases c <;> cases e
  case ins c ns ds =>
    obtain ⟨a, dx, vs, rfl, h, n, r⟩ := h.ins x
    obtain ⟨_, k⟩ := F.cls c (hc c rfl)
    exact .base (.ins h k.cls k.c1 k.c2 k.c3 k.c4)
theorem tyOf_bt {d : D} {s : Ty} (e : tyOfD d = some s) : ∀ n, s = .bt n → n ∈ ["NoneType", "bool", "int", "str", "tuple", "list", "dict"] := by
  intro n hn
  subst hn
  cases d <;> cases e <;> decide
/-- the classes as values -/
def clV (K : PySem.W.Frag) : Ty → V
  | .bt n => .ty n
  | .own c => .ref (He.ga K c)
theorem clV_ok (K : PySem.W.Frag) (t : Ty) : ClsV (clV K t) (tyV K t) := by
  cases t with
  | bt n => exact .ty n
  | own c => exact .own _
def tyNm : Ty → Str
  | .bt n => Str.ofString n
  | .own c => c
theorem bt_boot : ∀ n ∈ btNames, bootBuiltins (Str.ofString n) = some (.type n) := by
  intro n hn
  simp only [btNames, List.mem_cons, List.not_mem_nil, or_false] at hn
  rcases hn with rfl | rfl | rfl | rfl | rfl | rfl <;> kernel_rfl
/-- what may be asked for -/
def tyIn (G : Prog) : Ty → Bool
  | .bt n => btNames.contains n
  | .own c => G.clss.contains c && !(c == ("__debug__" : Str))
theorem pe_cl (F : Fx G X.K X.mg) {t : Ty} {pos : Pos} (ht : tyIn G t = true) (hg : Gl X (tyNm t)) : PE X (.Name (tyNm t) pos) (tC (clV X.K t)) := by
  cases t with
  | bt n =>
    have hn : n ∈ btNames := List.contains_iff_mem.mp ht
    have hb : n ∈ bltNames := (show ∀ n ∈ btNames, n ∈ bltNames by decide) n hn
    exact pe_bltn hg (F.blt n hb) (bt_boot n hn) rfl ((show ∀ n ∈ btNames, Str.ofString n ≠ "__name__" by decide) n hn) ((show ∀ n ∈ btNames, (Str.ofString n == ("__debug__" : Str)) = false by decide) n hn)
  | own c =>
    obtain ⟨h1, h2⟩ := Bool.and_eq_true_iff.mp (show (G.clss.contains c && !(c == ("__debug__" : Str))) = true from ht)
    exact pe_glob hg (F.cls c (List.contains_iff_mem.mp h1)).1 rfl (by show (c == ("__debug__" : Str)) = false; simpa using h2)
/-- no star -/
def noStar : Expr → Bool
  | .Starred .. => false
  | _ => true
theorem star_cons {e : Expr} {es : List Expr} {env : Env} (h : noStar e = true) : starEach (e :: es) env = (false, eval e env) :: starEach es env := by
  cases e <;> first | rfl | cases h
theorem star_any {pos : Pos} {env : Env} : ∀ {es : List Expr}, es.all noStar = true → (backTo pos (starEach es env)).any (·.1) = false
  | [], _ => rfl
  | e :: es, h => by
    obtain ⟨h1, h2⟩ := Bool.and_eq_true_iff.mp (show (noStar e && es.all noStar) = true from h)
    rw [star_cons h1]
    show (false || (backTo pos (starEach es env)).any (·.1)) = false
    rw [star_any h2]
    rfl
theorem sub_cls {K : PySem.W.Frag} {mg : Str → Option Value} (F : Fx G K mg) {s t : Ty} {b : Bool} (e : isSub G.subs s t = some b) : ∀ c, s = .own c → c ∈ G.clss := by
  intro c hc
  subst hc
  cases t <;> exact F.subc _ (lookup_eq (b := b) e) c rfl
theorem de_isi (F : Fx G X.K X.mg) {a : Expr} {t : Ty} {p p2 pos : Pos} {fa : Sl → Mu → R SV} (hg : Gl X "isinstance") (ht : tyIn G t = true) (hgt : Gl X (tyNm t)) (ha : PE X a (tS X Wx fa)) (hs : noStar a = true) :
    PE X (.Call (.Name "isinstance" p) [a, .Name (tyNm t) p2] [] pos) (tS X Wx fun s m => (fa s m).bind fun x m1 => (match isTyD G.subs (seeD m1 x.fz) t with | some b => .ok (.val (.bl b)) m1 | none => .bad)) := by
  refine pe_imp (pe_callB call_isi hg (F.blt "isinstance" (by decide)) (by kernel_rfl) (pa_cons ha (pa_cons (pe_cl F ht hgt) pa_nil rfl) (star_cons hs)) (by decide) (by decide) (star_cons hs) (star_any rfl)) fun σ H Q ⟨W, s, m, hs, o⟩ => ?_
  refine runz rb_sv hs o fun x m1 W1 v H1 h1 p1 av o1 => ?_
  split at o1
  · rename_i b e
    obtain ⟨st, e1, e2⟩ := Option.bind_eq_some_iff.mp e
    exact ⟨v, _, _, _, b, rfl, clV_ok X.K t, ty_of F h1.sub (see_rep h1.toSt0 av) e1 (sub_cls F e2), sub_ok F (tyOf_bt e1) e2, o1.fin h1.toSt0 rfl⟩
  · exact o1.elim
/-- the classes' names in a row -/
theorem pa_cls (F : Fx G X.K X.mg) : ∀ {ts : List Ty} {es : List Expr}, es.length = ts.length → (∀ (i : Nat) (t : Ty) (e : Expr), ts[i]? = some t → es[i]? = some e → ∃ p, e = .Name (tyNm t) p) → (∀ t ∈ ts, tyIn G t = true ∧ Gl X (tyNm t)) → PA X es (fun _ H Q => Q (ts.map (clV X.K)) H)
  | [], [], _, _, _ => pa_nil
  | t :: ts, e :: es, hl, hn, ht => by
    obtain ⟨p, rfl⟩ := hn 0 t e rfl rfl
    obtain ⟨h1, h2⟩ := ht t (by simp)
    exact pa_imp (pa_cons (pe_cl F h1 h2) (pa_cls F (ts := ts) (by simpa using hl) (fun i t e a b => hn (i + 1) t e (by simpa using a) (by simpa using b)) fun t h => ht t (by simp [h])) rfl) fun σ H Q h => h
  | [], _ :: _, hl, _, _ => by simp at hl
  | _ :: _, [], hl, _, _ => by simp at hl
theorem cls_pair (K : PySem.W.Frag) : ∀ ts : List Ty, Paired ClsV (ts.map (clV K)) (ts.map (tyV K))
  | [] => .nil
  | t :: ts => .cons (clV_ok K t) (cls_pair K ts)
theorem any_kit (F : Fx G X.K X.mg) {d : D} {s : Ty} (e1 : tyOfD d = some s) : ∀ {ts : List Ty} {b : Bool}, isTyA G.subs d ts = some b → PySem.W.kitAny X.K (tyV X.K s) (ts.map (tyV X.K)) = some b
  | [], b, h => by cases h; exact kitAny_nil
  | t :: ts, b, h => by
    unfold isTyA isTyD at h
    rw [e1] at h
    dsimp only [Option.bind_some] at h
    split at h
    · rename_i e2
      cases h
      exact kitAny_cons (sub_ok F (tyOf_bt e1) e2) (fun z => nomatch z) fun _ => rfl
    · rename_i e2
      exact kitAny_cons (sub_ok F (tyOf_bt e1) e2) (fun _ => any_kit F e1 h) fun z => nomatch z
    · cases h
theorem any_cls (F : Fx G X.K X.mg) {d : D} {s : Ty} (e1 : tyOfD d = some s) {t : Ty} {ts : List Ty} {b : Bool} (h : isTyA G.subs d (t :: ts) = some b) : ∀ c, s = .own c → c ∈ G.clss := by
  unfold isTyA isTyD at h
  rw [e1] at h
  dsimp only [Option.bind_some] at h
  split at h
  · rename_i e2
    exact sub_cls F e2
  · rename_i e2
    exact sub_cls F e2
  · cases h
theorem de_isis (F : Fx G X.K X.mg) {a : Expr} {t : Ty} {ts : List Ty} {es : List Expr} {k : Nat} {p p2 pos : Pos} {fa : Sl → Mu → R SV} (hg : Gl X "isinstance") (hl : es.length = (t :: ts).length) (hn : ∀ (i : Nat) (t' : Ty) (e : Expr), (t :: ts)[i]? = some t' → es[i]? = some e → ∃ p, e = .Name (tyNm t') p)
    (ht : ∀ t' ∈ t :: ts, tyIn G t' = true ∧ Gl X (tyNm t')) (hz : (t :: ts).length ≤ sizeLine) (ha : PE X a (tS X Wx fa)) (hs : noStar a = true) :
    PE X (.Call (.Name "isinstance" p) [a, .Tuple es k p2] [] pos) (tS X Wx fun s m => (fa s m).bind fun x m1 => (match isTyA G.subs (seeD m1 x.fz) (t :: ts) with | some b => .ok (.val (.bl b)) m1 | none => .bad)) := by
  refine pe_imp (pe_callB call_isiT hg (F.blt "isinstance" (by decide)) (by kernel_rfl) (pa_cons ha (pa_cons (pe_tup (pa_cls F hl hn ht)) pa_nil rfl) (star_cons hs)) (by decide) (by decide) (star_cons hs) (star_any rfl)) fun σ H Q ⟨W, s, m, hs, o⟩ => ?_
  refine runz rb_sv hs o fun x m1 W1 v H1 h1 p1 av o1 => ?_
  refine ⟨by rw [List.length_map]; exact hz, fun q hq => ?_⟩
  obtain ⟨x2, p2⟩ := h1.toSt0.laid hq (.tup ((t :: ts).map (clV X.K)))
  split at o1
  · rename_i b e
    cases e1 : tyOfD (seeD m1 x.fz) with
    | none =>
      unfold isTyA isTyD at e
      rw [e1] at e
      cases e
    | some st =>
      have av2 : Rep X.K X.mg _ x.fz v := Rep.mono p2.le _ _ av
      exact ⟨v, q, _, _, _, b, rfl, upd_same, cls_pair X.K _, ty_of F x2.sub (see_rep x2 av2) e1 (any_cls F e1 e), any_kit F e1 e, o1.fin2 x2 p2 rfl⟩
  · exact o1.elim
def rSortR : List V → List V → Hp → VK → Prop := fun xs zs H Q => ∃ (a : Addr) (kvs : List (Key × V)) (ks : List Int), xs = [.ref a] ∧ zs = [.bl true] ∧ H a = some (.dK kvs) ∧ kvs.map (·.1) = ks.map Sum.inl ∧ ks.length < 64 ∧
    ∀ (ys : List Int) (p : Addr), ys.Perm ks → ys.Pairwise (· ≥ ·) → H p = none → Q (.ref p) (upd H p (.lst (ys.map V.int)))
theorem sortR_ok {W : Wd} {m : Mu} {σ : L2.St} {H : Hp} {Q : VK} {ds : List D} {vs : List V} (st : St0 X.K X.mg W m H) (hv : VwL X.K X.mg W H ds vs) (o : OutG X.K X.mg (SvAt X.K X.mg) Wx W H σ (opF .sortedR ds m) Q) : rSortR vs [.bl true] H Q := by
  unfold opF at o
  split at o <;> (try (rename_i e; cases e; done)) <;> (try exact o.elim)
  obtain ⟨v, rfl, hw⟩ := hv.one
  split at o
  · rename_i l e
    obtain ⟨g, o⟩ := guard_t o
    obtain ⟨a, vs, rfl, h, n, r⟩ := hw.dk st.sub
    refine ⟨a, _, l, rfl, rfl, h, ?_, of_decide_eq_true g, fun ys q hp hs hq => ?_⟩
    · rw [← keysI_map e]
      exact List.map_fst_zip (by rw [n, r.length]; exact Nat.le_refl _)
    · rw [sortI_rev hp hs]
      exact own_new (c := .lst _) st (fun p => ⟨_, upd_same, reps_ints _⟩) o q hq
  · exact o.elim
theorem de_sortR (F : Fx G X.K X.mg) (hc : X.calm = true) {a : Expr} {p pos kp cp : Pos} {k : Nat} {fa : Sl → Mu → R (List D)} (hg : Gl X "sorted") (ha : PA X [a] (tLP X Wx fa)) (hs : noStar a = true) :
    PE X (.Call (.Name "sorted" p) [a] [⟨some "reverse", .Constant (.bool true) k cp, kp⟩] pos) (tS X Wx fun s m => (fa s m).bind fun ds m1 => opF .sortedR (ds.map (seeD m1)) m1) := by
  have hk : PK X [⟨some (Str.ofString "reverse"), .Constant (.bool true) k cp, kp⟩] (tCons (tC (.bl true)) tNil) := pk_cons pe_bl pk_nil
  refine pe_imp (pe_callBK (cr_sortedDR hc) hg (F.blt "sorted" (by decide)) (by kernel_rfl) ha hk (by decide) (by decide) (by rw [star_cons hs]; rfl) (star_any (by simp [hs])) (by rfl) (by rfl) (by rfl)) fun σ H Q ⟨W, s, m, hs, o⟩ => ?_
  refine run rb_sv hs o fun x m1 W1 v H1 _ h1 p1 av o1 => ?_
  exact sortR_ok h1.toSt0 (see_all h1.toSt0 av) o1
end
end Dp
end

section
set_option Elab.async false
set_option linter.all false
set_option maxRecDepth 100000
set_option maxHeartbeats 1000000
/-! The deep layer, part 9: enumerate over a tuple. -/
namespace PySem
open Sem (wp)
open AutoSeq1 (wpAny_loadPart')
theorem dp_enumerate_newT {v : Value} {o : Obj} {H : Heap → Prop} (B : Begins v o H) :
    Meets (Builtin.«enumerate.__new__» ⟨[.type "enumerate", v], []⟩) (fun _ R s => H s.heap ∧
      R (.ok (.ret (.ref (s.heap.push o).objs.size))) { s with heap := (s.heap.push o).push { cls := .type "enumerate", data := .fields #[.none, .bool false, .ref s.heap.objs.size, rawInt 0, .none, .none] } }) :=
  .of_wp fun prog w A R s h => by
    obtain ⟨hp, g, d, tk, os⟩ := s; obtain ⟨h1, h⟩ := h
    have hsub := sub_enumerate
    have q1 : ∀ {A' : Around} {E : Value → Shared → Prop} {Q : Value → Shared → Prop}, Q (.ref hp.objs.size) ⟨hp.push o, g, d, tk, os⟩ → wpAny (model prog w) A' (pyIter v) Q E ⟨hp, g, d, tk, os⟩ :=
      fun q => B.iter prog w _ _ ⟨hp, g, d, tk, os⟩ _ h1 q
    wp_walk using q1
    refine wpAny_stack_any fun st => wpAny_pure ?_
    split
    · rename_i c _ _ _ _ _
      cases (c == Value.type "enumerate")
      · wp_walk using q1
        exact ⟨_, rfl, h⟩
      · wp_walk using q1
        exact ⟨_, rfl, h⟩
    · wp_walk using q1
      exact ⟨_, rfl, h⟩
section
variable {prog : Program} {w : World} {A : Around} {E : Value → Shared → Prop} {s : Shared}
theorem dp_enum_begins {v : Value} {o : Obj} {H : Heap → Prop} {Q : Value → Shared → Prop} (B : Begins v o H) (h1 : H s.heap)
    (h : ∀ h', IsEnum h' (s.heap.objs.size + 1) s.heap.objs.size 0 .none → h'.get? s.heap.objs.size = some o → h'.objs.size = s.heap.objs.size + 2 →
      (∀ b o, s.heap.get? b = some o → h'.get? b = some o) → Q (.ref (s.heap.objs.size + 1)) { s with heap := h' }) :
    wpAny (model prog w) A (call (.type "enumerate") [v]) Q E s := by
  refine callType_new F.called_enumerate (by decide) (F.typeCall_enumerate_1 _) (F.newCall_enumerate_1 _) (fun obj => F.args_object_init_2 obj _) F.entry_enumerate_new
    (dp_enumerate_newT B) ⟨h1, ?_⟩
  have hz : (s.heap.push o).objs.size = s.heap.objs.size + 1 := Heap.size_push ..
  show _ ∧ _
  rw [hz]
  have he : IsEnum ((s.heap.push o).push { cls := .type "enumerate", data := .fields #[.none, .bool false, .ref s.heap.objs.size, rawInt 0, .none, .none] }) (s.heap.objs.size + 1) s.heap.objs.size 0 .none := by
    have := Heap.get?_push_size (s.heap.push o) (o := { cls := .type "enumerate", data := .fields #[.none, .bool false, .ref s.heap.objs.size, rawInt 0, .none, .none] }) rfl
    rw [hz] at this; exact this
  refine ⟨⟨_, he, rfl⟩, h _ he (Heap.get?_push_of_some _ (Heap.get?_push_size _ B.free)) (by rw [Heap.size_push, hz]) fun b o x => Heap.get?_push_of_some _ (Heap.get?_push_of_some _ x)⟩
end
end PySem
namespace Dp
open PySem PySem.Spec PyProof.Rows L2
/-- the tuple at a, each item in a new pair -/
def IteT (K : PySem.W.Frag) (a : Addr) : It :=
  ⟨fun i H => ∃ (xs : List V) (x : V), SqT K H a xs ∧ xs[i]? = some x, fun i H v H' => ∃ T x, v = .ref T ∧ H T = none ∧ H' = upd H T (.tup [.int (i : Nat), x]) ∧ ∀ xs, SqT K H a xs → xs[i]? = some x, fun i H => ∃ xs : List V, SqT K H a xs ∧ xs.length ≤ i⟩
theorem turn_enumT {P : Program} {w : World} {K : PySem.W.Frag} {elts : List Expr} {kk : Nat} {tpos : Pos} (a e it : Addr) (hat : a ≠ it) (hae : a ≠ e) :
    Turn P w K (.Tuple elts kk tpos) (IteT K a) [e, it] e (fun i h => (∃ old, IsEnum h e it ((i : Nat) : Int) old) ∧ h.IsTupleIter it a i ∧ e ≠ it) where
  mem := by simp
  obj := fun i h st b hb => by
    obtain ⟨⟨old, he⟩, ⟨o, ho, hc, hd⟩, _⟩ := st
    have e' : b = e ∨ b = it := by simpa using hb
    rcases e' with z | z
    · rw [z]; exact ⟨_, he, fun v q => nomatch q⟩
    · rw [z]; exact ⟨o, ho, fun v q => by rw [hd] at q; cases q⟩
  keep := fun i h h' st k => let ⟨⟨old, he⟩, hi, hne⟩ := st; ⟨⟨old, k e (by simp) _ he⟩, hi.at fun o q => k it (by simp) o q, hne⟩
  item := by
    intro X hP hw hK hc i pins s σ H E I hf st hg
    subst hP hw hK
    obtain ⟨⟨old, he⟩, hit, hne⟩ := st
    obtain ⟨xs, x, hq, hx⟩ := hg
    obtain ⟨its, rv, p, hz⟩ := I.tuple hq
    obtain ⟨u, hu, ru⟩ := rv.get hx
    have hel : e < s.heap.objs.size := Heap.lt_size he
    have hil : it < s.heap.objs.size := by obtain ⟨_, q, _⟩ := hit; exact Heap.lt_size q
    have hin : i < its.toArray.size := by
      obtain ⟨hi, _⟩ := List.getElem?_eq_some_iff.mp hu
      simpa using hi
    have D := Draws.tuple (prog := X.prog) (w := X.w) (A := X.A.in1) (I.ok.hd hc) it a hat its.toArray
    refine wpAny_pyNext_enum_itemD D he ⟨hit, show s.heap.IsTuple a its.toArray from p⟩ hin hne (fun z => by
      rcases List.mem_cons.mp z with z | z
      · exact hne z
      · exact hae (List.mem_singleton.mp z).symm) fun u' h' tk hP ho st' hT hsz hk => ?_
    have eu : u' = u := by
      have h1 : its.toArray[i]? = some u := by simpa using hu
      have h2 : its.toArray[i]? = some u' := hP
      rw [h1] at h2
      exact (Option.some.inj h2).symm
    subst eu
    refine ⟨_, rfl, wpAny_letOwnedTupleGo_enum (s := { s with heap := h', toks := tk + 1 }) ho fun h'' he' sb => ?_⟩
    have hT2 : h''.get? s.heap.objs.size = some { cls := .type "tuple", data := .seq #[.int i tk, u'] } := (sb.2 _ (Nat.ne_of_gt hel)).trans hT
    have new : ObjOk X.prog X.w (upd H s.heap.objs.size (.tup [.int (i : Nat), x])) h'' s.heap.objs.size (.tup [.int (i : Nat), x]) :=
      ⟨by show 2 ≤ sizeLine; decide, [.int i tk, u'], .cons ⟨_, rfl⟩ (.cons ru .nil), ⟨_, hT2, rfl, _, rfl⟩⟩
    have I1 : L2.Inv X pins σ (upd H s.heap.objs.size (.tup [.int (i : Nat), x])) { s with heap := h'', toks := tk + 1 } :=
      I.turnedNew (ch := [e, it]) (fun b ob hb q => (sb.2 b (fun z => hb (by simp [z]))).trans (hk b ob (fun z => hb (by simp [z])) (fun z => hb (by simp [z])) q)) hf (Nat.le_refl _) new
    refine ⟨.ref s.heap.objs.size, _, I1, rfl, ⟨_, x, rfl, I.hok.fresh (Nat.le_refl _), rfl, fun ys hy => by rw [I.tuple_inj hy hq]; exact hx⟩, ⟨⟨u', ?_⟩, st'.1.at fun o q => (sb.2 it (Ne.symm hne)).trans q, hne⟩, fun b hb => ?_⟩
    · have e1 : ((i + 1 : Nat) : Int) = (i : Int) + 1 := by omega
      rw [e1]; exact he'
    · have hb' : b < s.heap.objs.size := by
        have e' : b = e ∨ b = it := by simpa using hb
        rcases e' with z | z
        · rw [z]; exact hel
        · rw [z]; exact hil
      rw [upd_ne (Nat.ne_of_lt hb')]
      exact (hf b hb).1
  done := by
    intro X hP hw hK hc i pins s σ H E I hf st hg
    subst hP hw hK
    obtain ⟨⟨old, he⟩, hit, hne⟩ := st
    obtain ⟨xs, hq, hx⟩ := hg
    obtain ⟨its, rv, p, hz⟩ := I.tuple hq
    obtain ⟨f0, f1, f2, f3, f4, f5⟩ := hf it (by simp)
    have hl := rv.length
    have q : wpAny (model X.prog X.w) X.A (Builtin.SmallTypes.nextOf (.ref it)) (fun _ _ => False) (fun e s => True) s → True := fun _ => trivial
    have hi2 : its.toArray[i]? = none := by
      simp
      omega
    have hT : s.TypeIs (.ref e) "enumerate" := ⟨_, he, rfl⟩
    unfold pyNext
    refine wpAny_bind (wpAny_attempt (wpAny_callSpecial?_slot (name := Str.ofString "__next__") hT F.slot_enumerate_next
      (wpAny_call_entry F.slot_enumerate_next hT F.entry_enumerate_next ?_ (F.args_enumerate_next_1 _))))
    show wpAny _ _ (field (.ref e) 2 >>= _) _ _ _
    refine wpAny_bind (wpAny_field he rfl (x := .ref it) rfl ?_)
    refine wpAny_bind (wpAny_nextOf_tuple_end (A := X.A.in1) (I.ok.hd hc) hit (show s.heap.IsTuple a its.toArray from p) hi2 fun h' x he' hx' => ?_)
    obtain ⟨o, ho, hc⟩ := hx'
    refine wpAny_bind (wpAny_isInstance (T := "StopIteration") (b := true) ⟨o, ho, hc⟩ isSubtype_stop ?_)
    exact wpAny_pure ⟨rfl, I.turned (t' := s.toks) (fun b o hb q => he' b o hb q) f0 f1 f3 f4 f5⟩
  self := fun A i s Q E st h => let ⟨⟨_, he⟩, _⟩ := st; wpAny_pyIter_enum he h
/-- enumerate(x), x a list or a tuple -/
def iEnumA (K : PySem.W.Frag) (ta : TA) : TI := fun σ H R => ta σ H fun vs H1 => ∃ a xs, vs = [.ref a] ∧ ((SqL K H1 a xs ∧ R (Ite K a) H1) ∨ (SqT K H1 a xs ∧ R (IteT K a) H1))
theorem pi_enumA {X : Cx} {e : Expr} {ta : TA} {p pos tpos : Pos} {elts : List Expr} {kk : Nat} (hg : Gl X "enumerate") (hm : X.mg "enumerate" = none) (ha : PA X [e] ta) (hs : starEach [e] X.env = [(false, eval e X.env)] := by rfl) :
    PI X (.Tuple elts kk tpos) (.Call (.Name "enumerate" p) [e] [] pos) (iEnumA X.K ta) := by
  refine ⟨fun pins s σ H R I h => ?_⟩
  refine Call_ (ld_blt I hg hm boot_enumerate (PyProof.Rows.callWith_type1 (thn (ha.run pos pins s σ H _ I h) fun us s1 ⟨vs, H1, I1, r1, q1⟩ => ?_) hs rfl))
  obtain ⟨a, xs, ex, q⟩ := q1
  subst ex
  cases r1 with
  | cons r rr =>
    cases rr
    cases r
    have fr : ∀ b ∈ [s1.heap.objs.size + 1, s1.heap.objs.size], FpOk X pins H1 b := fun b hb => by
      have e' : b = s1.heap.objs.size + 1 ∨ b = s1.heap.objs.size := by simpa using hb
      have hle : s1.heap.objs.size ≤ b := by
        rcases e' with z | z
        · rw [z]; exact Nat.le_add_right _ _
        · rw [z]; exact Nat.le_refl _
      exact I1.fpOk hle (I1.hok.fresh hle)
    rcases q with ⟨hq, q⟩ | ⟨hq, q⟩
    · obtain ⟨its, rv, p', hz⟩ := I1.list hq
      refine call_enumerate_list p'.isList fun h' he hit hsz hk => wpAny_pyIter_enum he ?_
      have I2 : L2.Inv X pins σ H1 { s1 with heap := h' } := I1.kept (t' := s1.toks) hk
      exact ⟨s1.heap.objs.size + 1, [s1.heap.objs.size + 1, s1.heap.objs.size], _, _, H1, rfl, I2, turn_enum a (s1.heap.objs.size + 1) s1.heap.objs.size, ⟨⟨.none, he⟩, hit, Nat.succ_ne_self _⟩, fr, q⟩
    · obtain ⟨its, rv, p', hz⟩ := I1.tuple hq
      obtain ⟨oa, hoa, _⟩ := id p'
      have hlt : a < s1.heap.objs.size := Heap.lt_size hoa
      refine dp_enum_begins (begins_tuple a its.toArray) (show s1.heap.IsTuple a its.toArray from p') fun h' he hit hsz hk => wpAny_pyIter_enum he ?_
      have I2 : L2.Inv X pins σ H1 { s1 with heap := h' } := I1.kept (t' := s1.toks) hk
      exact ⟨s1.heap.objs.size + 1, [s1.heap.objs.size + 1, s1.heap.objs.size], _, _, H1, rfl, I2, turn_enumT a (s1.heap.objs.size + 1) s1.heap.objs.size (Nat.ne_of_lt hlt) (Nat.ne_of_lt (Nat.lt_succ_of_lt hlt)), ⟨⟨.none, he⟩, ⟨_, hit, rfl, rfl⟩, Nat.succ_ne_self _⟩, fr, q⟩
/-- a list or a tuple walked -/
def iSq (K : PySem.W.Frag) (tl : TE) : TI := fun σ H R => tl σ H fun x H1 => ∃ a xs, x = .ref a ∧ ((SqL K H1 a xs ∧ R (Itl K a) H1) ∨ (SqT K H1 a xs ∧ R (Itt K a) H1))
theorem pi_sq {X : Cx} {tg l : Expr} {tl : TE} (hl : PE X l tl) : PI X tg l (iSq X.K tl) := by
  refine ⟨fun pins s σ H R I h => ?_⟩
  refine thn (hl.run pins s σ H _ I h) fun v s1 ⟨x, H1, I1, r1, q1⟩ => ?_
  obtain ⟨a, xs, e, q⟩ := q1
  subst e
  cases r1
  rcases q with ⟨hq, q⟩ | ⟨hq, q⟩
  · obtain ⟨its, rv, p, hz⟩ := I1.list hq
    exact wpAny_pyIter_list p.isList (pi_one (tk := s1.toks) I1 _ (turn_list a _) ⟨_, Heap.get?_push_size _ rfl, rfl, rfl⟩ q)
  · obtain ⟨its, rv, p, hz⟩ := I1.tuple hq
    exact wpAny_pyIter_tuple (show s1.heap.IsTuple a its.toArray from p) (pi_one (tk := s1.toks) I1 _ (turn_tuple a _) ⟨_, Heap.get?_push_size _ rfl, rfl, rfl⟩ q)
end Dp
end

section
set_option Elab.async false
set_option linter.all false
set_option maxRecDepth 100000
set_option maxHeartbeats 1000000
/-! The deep layer, part 10: what is walked. -/
namespace Dp
open PySem PySem.Spec PyProof.Rows L2
structure ItOk (K : PySem.W.Frag) (mg : Str → Option Value) (W0 : Wd) (ds : List D) (J : It) : Prop where
  go : ∀ (W : Wd) (m : Mu) (H : Hp) (i : Nat), Le W0 W → St0 K mg W m H → i < ds.length → J.go i H
  stop : ∀ (W : Wd) (m : Mu) (H : Hp) (i : Nat), Le W0 W → St0 K mg W m H → ds.length ≤ i → J.stop i H
  yld : ∀ (W : Wd) (m : Mu) (H : Hp) (i : Nat) (x : V) (H' : Hp), Le W0 W → St0 K mg W m H → i < ds.length → J.yld i H x H' → ∃ W2 d, ds[i]? = some d ∧ St0 K mg W2 m H' ∧ Step W H W2 H' ∧ Rep K mg W2 d x
def ItAt (K : PySem.W.Frag) (mg : Str → Option Value) (W' : Wd) (_ _ : Hp) (ds : List D) (J : It) : Prop := ItOk K mg W' ds J
theorem sm_none {H : Hp} : Same (fun _ => none) H := fun b o e => by cases e
theorem rb_it {K : PySem.W.Frag} {mg : Str → Option Value} : Rb K mg (ItAt K mg) := fun _ _ _ _ _ _ _ _ _ _ _ _ h => h
section
variable {K : PySem.W.Frag} {mg : Str → Option Value} {W0 : Wd} {ds es : List D} {vs us : List V} {a b : Addr}
theorem it_list (h : SqL K W0.Hf a vs) (r : Reps K mg W0 ds vs) : ItOk K mg W0 ds (Itl K a) where
  go := fun W m H i l st hi => by
    have hi' : i < vs.length := by rw [← r.length]; exact hi
    exact ⟨vs, vs[i], st.sub.seq (l.sub.seq h), List.getElem?_eq_getElem hi'⟩
  stop := fun W m H i l st hi => ⟨vs, st.sub.seq (l.sub.seq h), by rw [← r.length]; exact hi⟩
  yld := fun W m H i x H' l st hi y => by
    obtain ⟨rfl, q⟩ := y
    obtain ⟨d, e, rd⟩ := r.getV (q vs (st.sub.seq (l.sub.seq h)))
    exact ⟨W, d, e, st, Step.refl _ _, Rep.mono l d x rd⟩
theorem it_tup (h : SqT K W0.Hf a vs) (r : Reps K mg W0 ds vs) : ItOk K mg W0 ds (Itt K a) where
  go := fun W m H i l st hi => by
    have hi' : i < vs.length := by rw [← r.length]; exact hi
    exact ⟨vs, vs[i], sqT_same st.sub (sqT_same l.sub h), List.getElem?_eq_getElem hi'⟩
  stop := fun W m H i l st hi => ⟨vs, sqT_same st.sub (sqT_same l.sub h), by rw [← r.length]; exact hi⟩
  yld := fun W m H i x H' l st hi y => by
    obtain ⟨rfl, q⟩ := y
    obtain ⟨d, e, rd⟩ := r.getV (q vs (sqT_same st.sub (sqT_same l.sub h)))
    exact ⟨W, d, e, st, Step.refl _ _, Rep.mono l d x rd⟩
theorem range_get {n i : Nat} {f : Nat → D} (h : i < n) : ((List.range n).map f)[i]? = some (f i) := by
  rw [List.getElem?_map, List.getElem?_range h]
  rfl
theorem it_rng (lo : Int) (n : Nat) : ItOk K mg W0 ((List.range n).map fun i => D.int (lo + (i : Nat))) (Itr lo n) where
  go := fun W m H i l st hi => by
    show i < n
    simpa using hi
  stop := fun W m H i l st hi => by
    show n ≤ i
    simpa using hi
  yld := fun W m H i x H' l st hi y => by
    obtain ⟨rfl, e⟩ := y
    have hi' : i < n := by simpa using hi
    exact ⟨W, _, range_get hi', st, Step.refl _ _, e⟩
theorem it_rngC (lo c : Int) (n : Nat) (f : Nat → Int) (hf : ∀ i, i < n → lo + (i : Nat) * c = f i) : ItOk K mg W0 ((List.range n).map fun i => D.int (f i)) (Itc lo c n) where
  go := fun W m H i l st hi => by
    show i < n
    simpa using hi
  stop := fun W m H i l st hi => by
    show n ≤ i
    simpa using hi
  yld := fun W m H i x H' l st hi y => by
    obtain ⟨rfl, e⟩ := y
    have hi' : i < n := by simpa using hi
    refine ⟨W, _, range_get hi', st, Step.refl _ _, ?_⟩
    rw [← hf i hi']
    exact e
theorem enum_get {ds : List D} {i : Nat} {d : D} (h : ds[i]? = some d) : (((List.range ds.length).zip ds).map fun q => D.tup [.int (q.1 : Nat), q.2])[i]? = some (.tup [.int (i : Nat), d]) := by
  have hi := (List.getElem?_eq_some_iff.mp h).1
  have hz : ((List.range ds.length).zip ds)[i]? = some (i, d) := by
    rw [List.getElem?_zip_eq_some]
    exact ⟨List.getElem?_range hi, h⟩
  rw [List.getElem?_map, hz]
  rfl
theorem enum_len {ds : List D} : (((List.range ds.length).zip ds).map fun q => D.tup [.int (q.1 : Nat), q.2]).length = ds.length := by simp
theorem pair_new {W : Wd} {m : Mu} {H : Hp} {T : Addr} {x y : V} {d e : D} (st : St0 K mg W m H) (hT : H T = none) (rx : Rep K mg W d x) (ry : Rep K mg W e y) :
    ∃ W2, St0 K mg W2 m (upd H T (.tup [x, y])) ∧ Step W H W2 (upd H T (.tup [x, y])) ∧ Rep K mg W2 (.tup [d, e]) (.ref T) := by
  obtain ⟨x2, p2⟩ := st.laid hT (.tup [x, y])
  exact ⟨_, x2, p2, T, [x, y], rfl, upd_same, Reps.cons (Rep.mono p2.le _ _ rx) (Reps.one (Rep.mono p2.le _ _ ry))⟩
theorem it_enumL (h : SqL K W0.Hf a vs) (r : Reps K mg W0 ds vs) : ItOk K mg W0 (((List.range ds.length).zip ds).map fun q => .tup [.int (q.1 : Nat), q.2]) (Ite K a) where
  go := fun W m H i l st hi => by
    have hi' : i < vs.length := by rw [← r.length]; simpa [enum_len] using hi
    exact ⟨vs, vs[i], st.sub.seq (l.sub.seq h), List.getElem?_eq_getElem hi'⟩
  stop := fun W m H i l st hi => ⟨vs, st.sub.seq (l.sub.seq h), by rw [← r.length]; rw [enum_len] at hi; exact hi⟩
  yld := fun W m H i x H' l st hi y => by
    obtain ⟨T, z, rfl, hT, rfl, q⟩ := y
    obtain ⟨d, e, rd⟩ := r.getV (q vs (st.sub.seq (l.sub.seq h)))
    obtain ⟨W2, s2, p2, r2⟩ := pair_new (x := .int (i : Nat)) (d := .int (i : Nat)) st hT rfl (Rep.mono l d z rd)
    exact ⟨W2, _, enum_get e, s2, p2, r2⟩
theorem it_enumT (h : SqT K W0.Hf a vs) (r : Reps K mg W0 ds vs) : ItOk K mg W0 (((List.range ds.length).zip ds).map fun q => .tup [.int (q.1 : Nat), q.2]) (IteT K a) where
  go := fun W m H i l st hi => by
    have hi' : i < vs.length := by rw [← r.length]; simpa [enum_len] using hi
    exact ⟨vs, vs[i], sqT_same st.sub (sqT_same l.sub h), List.getElem?_eq_getElem hi'⟩
  stop := fun W m H i l st hi => ⟨vs, sqT_same st.sub (sqT_same l.sub h), by rw [← r.length]; rw [enum_len] at hi; exact hi⟩
  yld := fun W m H i x H' l st hi y => by
    obtain ⟨T, z, rfl, hT, rfl, q⟩ := y
    obtain ⟨d, e, rd⟩ := r.getV (q vs (sqT_same st.sub (sqT_same l.sub h)))
    obtain ⟨W2, s2, p2, r2⟩ := pair_new (x := .int (i : Nat)) (d := .int (i : Nat)) st hT rfl (Rep.mono l d z rd)
    exact ⟨W2, _, enum_get e, s2, p2, r2⟩
theorem zip_get {ds es : List D} {i : Nat} {d e : D} (h : ds[i]? = some d) (k : es[i]? = some e) : ((ds.zip es).map fun q => D.tup [q.1, q.2])[i]? = some (.tup [d, e]) := by
  have hz : (ds.zip es)[i]? = some (d, e) := by
    rw [List.getElem?_zip_eq_some]
    exact ⟨h, k⟩
  rw [List.getElem?_map, hz]
  rfl
theorem it_zipL (h : SqL K W0.Hf a vs) (r : Reps K mg W0 ds vs) (h' : SqL K W0.Hf b us) (r' : Reps K mg W0 es us) : ItOk K mg W0 ((ds.zip es).map fun q => .tup [q.1, q.2]) (Itz K a b) where
  go := fun W m H i l st hi => by
    have hi2 : i < vs.length ∧ i < us.length := by rw [List.length_map, List.length_zip, r.length, r'.length] at hi; omega
    exact ⟨vs, us, vs[i], us[i], st.sub.seq (l.sub.seq h), st.sub.seq (l.sub.seq h'), List.getElem?_eq_getElem hi2.1, List.getElem?_eq_getElem hi2.2⟩
  stop := fun W m H i l st hi => ⟨vs, us, st.sub.seq (l.sub.seq h), st.sub.seq (l.sub.seq h'), by rw [List.length_map, List.length_zip, r.length, r'.length] at hi; omega⟩
  yld := fun W m H i x H' l st hi y => by
    obtain ⟨T, z, z', rfl, hT, rfl, q, q'⟩ := y
    obtain ⟨d, e, rd⟩ := r.getV (q vs (st.sub.seq (l.sub.seq h)))
    obtain ⟨d', e', rd'⟩ := r'.getV (q' us (st.sub.seq (l.sub.seq h')))
    obtain ⟨W2, s2, p2, r2⟩ := pair_new st hT (Rep.mono l d z rd) (Rep.mono l d' z' rd')
    exact ⟨W2, _, zip_get e e', s2, p2, r2⟩
theorem it_zipT (h : SqT K W0.Hf a vs) (r : Reps K mg W0 ds vs) (h' : SqT K W0.Hf b us) (r' : Reps K mg W0 es us) : ItOk K mg W0 ((ds.zip es).map fun q => .tup [q.1, q.2]) (RZ.ItzT K a b) where
  go := fun W m H i l st hi => by
    have hi2 : i < vs.length ∧ i < us.length := by rw [List.length_map, List.length_zip, r.length, r'.length] at hi; omega
    exact ⟨vs, us, vs[i], us[i], sqT_same st.sub (sqT_same l.sub h), sqT_same st.sub (sqT_same l.sub h'), List.getElem?_eq_getElem hi2.1, List.getElem?_eq_getElem hi2.2⟩
  stop := fun W m H i l st hi => ⟨vs, us, sqT_same st.sub (sqT_same l.sub h), sqT_same st.sub (sqT_same l.sub h'), by rw [List.length_map, List.length_zip, r.length, r'.length] at hi; omega⟩
  yld := fun W m H i x H' l st hi y => by
    obtain ⟨T, z, z', rfl, hT, rfl, q, q'⟩ := y
    obtain ⟨d, e, rd⟩ := r.getV (q vs (sqT_same st.sub (sqT_same l.sub h)))
    obtain ⟨d', e', rd'⟩ := r'.getV (q' us (sqT_same st.sub (sqT_same l.sub h')))
    obtain ⟨W2, s2, p2, r2⟩ := pair_new st hT (Rep.mono l d z rd) (Rep.mono l d' z' rd')
    exact ⟨W2, _, zip_get e e', s2, p2, r2⟩
theorem rev_get {ds : List D} {i : Nat} {d : D} (hi : i < ds.length) (h : ds[ds.length - 1 - i]? = some d) : ds.reverse[i]? = some d := by
  rw [List.getElem?_reverse hi]
  exact h
theorem it_revL (h : SqL K W0.Hf a vs) (r : Reps K mg W0 ds vs) : ItOk K mg W0 ds.reverse (Itv K a vs.length) where
  go := fun W m H i l st hi => by
    have hi' : i < vs.length := by rw [← r.length]; simpa using hi
    exact ⟨hi', vs, vs[vs.length - 1 - i], st.sub.seq (l.sub.seq h), List.getElem?_eq_getElem (by omega)⟩
  stop := fun W m H i l st hi => by
    show vs.length ≤ i
    rw [← r.length]; simpa using hi
  yld := fun W m H i x H' l st hi y => by
    obtain ⟨rfl, q⟩ := y
    obtain ⟨d, e, rd⟩ := r.getV (q vs (st.sub.seq (l.sub.seq h)))
    rw [← r.length] at e
    exact ⟨W, d, rev_get (by simpa using hi) e, st, Step.refl _ _, Rep.mono l d x rd⟩
theorem it_revT (h : SqT K W0.Hf a vs) (r : Reps K mg W0 ds vs) : ItOk K mg W0 ds.reverse (RT.ItvT K a vs.length) where
  go := fun W m H i l st hi => by
    have hi' : i < vs.length := by rw [← r.length]; simpa using hi
    exact ⟨hi', vs, vs[vs.length - 1 - i], sqT_same st.sub (sqT_same l.sub h), List.getElem?_eq_getElem (by omega)⟩
  stop := fun W m H i l st hi => by
    show vs.length ≤ i
    rw [← r.length]; simpa using hi
  yld := fun W m H i x H' l st hi y => by
    obtain ⟨rfl, q⟩ := y
    obtain ⟨d, e, rd⟩ := r.getV (q vs (sqT_same st.sub (sqT_same l.sub h)))
    rw [← r.length] at e
    exact ⟨W, d, rev_get (by simpa using hi) e, st, Step.refl _ _, Rep.mono l d x rd⟩
end
section
variable {X : Cx} {Wx : WX} {tg : Expr}
abbrev tI (X : Cx) (Wx : WX) (f : Sl → Mu → R (List D)) : TI := tG X.K X.mg (ItAt X.K X.mg) Wx f
theorem pi_imp {e : Expr} {t t' : TI} (h : PI X tg e t) (i : ∀ σ H Q, t' σ H Q → t σ H Q) : PI X tg e t' := ⟨fun pins s σ H Q I hw => h.run pins s σ H Q I (i _ _ _ hw)⟩
theorem di_seq {e : Expr} {f : Sl → Mu → R SV} (he : PE X e (tS X Wx f)) : PI X tg e (tI X Wx fun s m => (f s m).bind fun x m1 => (match x.fz with
    | .lst ds => .ok ds m1
    | .tup ds => .ok ds m1
    | .seq ds => .ok ds m1
    | .gl _ => .ok [] m1
    | _ => .bad)) := by
  refine pi_imp (pi_sq he) fun σ H Q ⟨W, s, m, hs, o⟩ => ?_
  refine runz rb_it hs o fun x m1 W1 v H1 h1 p1 av o1 => ?_
  split at o1
  · rename_i ds e
    rw [e] at av
    obtain ⟨a, vs, rfl, h, r⟩ := av
    exact ⟨a, vs, rfl, .inl ⟨SqL.of (h1.sub _ _ h), o1.fin h1.toSt0 (it_list (SqL.of h) r)⟩⟩
  · rename_i ds e
    rw [e] at av
    obtain ⟨a, vs, rfl, h, r⟩ := av
    exact ⟨a, vs, rfl, .inr ⟨SqT.of (h1.sub _ _ h), o1.fin h1.toSt0 (it_tup (SqT.of h) r)⟩⟩
  · rename_i ds e
    rw [e] at av
    obtain ⟨a, vs, rfl, h, r⟩ := av
    exact ⟨a, vs, rfl, .inl ⟨h1.sub.seq h, o1.fin h1.toSt0 (it_list h r)⟩⟩
  · rename_i z e
    rw [e] at av
    obtain ⟨a, rfl, h, _⟩ := av
    exact ⟨a, [], rfl, .inr ⟨sqT_same sm_none h, o1.fin h1.toSt0 (it_tup (ds := []) (vs := []) (sqT_same sm_none h) rfl)⟩⟩
  · exact o1.elim
variable {G : Prog} (F : Fx G X.K X.mg)
theorem di_rng1 (F : Fx G X.K X.mg) {e : Expr} {p pos : Pos} {f : Sl → Mu → R SV} (hg : Gl X "range") (he : PE X e (tS X Wx f)) (hs : noStar e = true) : PI X tg (.Call (.Name "range" p) [e] [] pos) (tI X Wx fun s m => (f s m).bind fun x m1 => (match x.fz with
    | .int n => guardR (r62 n) (.ok ((List.range n.toNat).map fun i => D.int (i : Nat)) m1)
    | _ => .bad)) := by
  refine pi_imp (pi_range1 hg (F.blt "range" (by decide)) (pa_cons he pa_nil (star_cons hs)) (star_cons hs)) fun σ H Q ⟨W, s, m, hs, o⟩ => ?_
  refine runz rb_it hs o fun x m1 W1 v H1 h1 p1 av o1 => ?_
  split at o1
  · rename_i n e
    rw [e] at av
    cases av
    generalize hb : r62 n = b at o1
    cases b with
    | false => exact o1.elim
    | true =>
      unfold r62 at hb
      rw [Bool.and_eq_true, decide_eq_true_eq, decide_eq_true_eq] at hb
      refine ⟨n, rfl, hb.1, hb.2, ?_⟩
      have o2 : OutG X.K X.mg (ItAt X.K X.mg) Wx W1 H1 σ (.ok ((List.range n.toNat).map fun i => D.int (i : Nat)) m1) Q := o1
      refine o2.fin h1.toSt0 ?_
      have q := it_rng (K := X.K) (mg := X.mg) (W0 := W1) 0 n.toNat
      simp only [Int.zero_add] at q
      exact q
  · exact o1.elim
theorem di_rng2 (F : Fx G X.K X.mg) {e e2 : Expr} {p pos : Pos} {f g : Sl → Mu → R SV} (hg : Gl X "range") (he : PE X e (tS X Wx f)) (he2 : PE X e2 (tS X Wx g)) (hs : noStar e = true) (hs2 : noStar e2 = true) : PI X tg (.Call (.Name "range" p) [e, e2] [] pos) (tI X Wx fun s m => (f s m).bind fun x m1 => (g s m1).bind fun y m2 => (match x.fz, y.fz with
    | .int l, .int h => guardR (r62 l && r62 h) (.ok ((List.range (h - l).toNat).map fun i => D.int (l + (i : Nat))) m2)
    | _, _ => .bad)) := by
  refine pi_imp (pi_range2 hg (F.blt "range" (by decide)) (pa_cons he (pa_cons he2 pa_nil (star_cons hs2)) (star_cons hs)) (by rw [star_cons hs, star_cons hs2]; rfl) (star_cons hs2)) fun σ H Q ⟨W, s, m, hs, o⟩ => ?_
  refine runz rb_it hs o fun x m1 W1 v H1 h1 p1 av o1 => ?_
  refine runz rb_it h1 o1 fun y m2 W2 u H2 h2 p2 bv o2 => ?_
  split at o2
  · rename_i l h e1 e2
    rw [e1] at av
    rw [e2] at bv
    cases av
    cases bv
    generalize hb : (r62 l && r62 h) = b at o2
    cases b with
    | false => exact o2.elim
    | true =>
      unfold r62 at hb
      simp only [Bool.and_eq_true, decide_eq_true_eq] at hb
      refine ⟨l, h, rfl, ⟨hb.1.1, hb.1.2, hb.2.1, hb.2.2⟩, ?_⟩
      have o3 : OutG X.K X.mg (ItAt X.K X.mg) Wx W2 H2 σ (.ok ((List.range (h - l).toNat).map fun i => D.int (l + (i : Nat))) m2) Q := o2
      exact o3.fin h2.toSt0 (it_rng l (h - l).toNat)
  · exact o2.elim
theorem di_enum (F : Fx G X.K X.mg) {e : Expr} {elts : List Expr} {kk : Nat} {p pos tpos : Pos} {f : Sl → Mu → R SV} (hg : Gl X "enumerate") (he : PE X e (tS X Wx f)) (hs : noStar e = true) : PI X (.Tuple elts kk tpos) (.Call (.Name "enumerate" p) [e] [] pos) (tI X Wx fun s m => (f s m).bind fun x m1 => (match x.fz with
    | .lst ds => .ok (((List.range ds.length).zip ds).map fun q => .tup [.int (q.1 : Nat), q.2]) m1
    | .tup ds => .ok (((List.range ds.length).zip ds).map fun q => .tup [.int (q.1 : Nat), q.2]) m1
    | .gl _ => .ok [] m1
    | _ => .bad)) := by
  refine pi_imp (pi_enumA hg (F.blt "enumerate" (by decide)) (pa_cons he pa_nil (star_cons hs)) (star_cons hs)) fun σ H Q ⟨W, s, m, hs, o⟩ => ?_
  refine runz rb_it hs o fun x m1 W1 v H1 h1 p1 av o1 => ?_
  split at o1
  · rename_i ds e
    rw [e] at av
    obtain ⟨a, vs, rfl, h, r⟩ := av
    exact ⟨a, vs, rfl, .inl ⟨SqL.of (h1.sub _ _ h), o1.fin h1.toSt0 (it_enumL (SqL.of h) r)⟩⟩
  · rename_i ds e
    rw [e] at av
    obtain ⟨a, vs, rfl, h, r⟩ := av
    exact ⟨a, vs, rfl, .inr ⟨SqT.of (h1.sub _ _ h), o1.fin h1.toSt0 (it_enumT (SqT.of h) r)⟩⟩
  · rename_i z e
    rw [e] at av
    obtain ⟨a, rfl, h, _⟩ := av
    exact ⟨a, [], rfl, .inr ⟨sqT_same sm_none h, o1.fin h1.toSt0 (it_enumT (ds := []) (vs := []) (sqT_same sm_none h) rfl)⟩⟩
  · exact o1.elim
theorem di_zip (F : Fx G X.K X.mg) {e e2 : Expr} {elts : List Expr} {kk : Nat} {p pos tpos : Pos} {f g : Sl → Mu → R SV} (hg : Gl X "zip") (he : PE X e (tS X Wx f)) (he2 : PE X e2 (tS X Wx g)) (hs : noStar e = true) (hs2 : noStar e2 = true) : PI X (.Tuple elts kk tpos) (.Call (.Name "zip" p) [e, e2] [] pos) (tI X Wx fun s m => (f s m).bind fun x m1 => (g s m1).bind fun y m2 => (match x.fz, y.fz with
    | .lst a, .lst b => .ok ((a.zip b).map fun q => .tup [q.1, q.2]) m2
    | .tup a, .tup b => .ok ((a.zip b).map fun q => .tup [q.1, q.2]) m2
    | _, _ => .bad)) := by
  refine pi_imp (RZ.pi_zipA hg (F.blt "zip" (by decide)) (pa_cons he (pa_cons he2 pa_nil (star_cons hs2)) (star_cons hs)) (star_cons hs) (star_any (by simp [hs2]))) fun σ H Q ⟨W, s, m, hs, o⟩ => ?_
  refine runz rb_it hs o fun x m1 W1 v H1 h1 p1 av o1 => ?_
  refine runz rb_it h1 o1 fun y m2 W2 u H2 h2 p2 bv o2 => ?_
  have av2 := Rep.mono p2.le _ _ av
  split at o2
  · rename_i ds es e1 e2
    rw [e1] at av2
    rw [e2] at bv
    obtain ⟨a, vs, rfl, h, r⟩ := av2
    obtain ⟨b, us, rfl, h', r'⟩ := bv
    exact ⟨a, b, vs, us, rfl, .inl ⟨SqL.of (h2.sub _ _ h), SqL.of (h2.sub _ _ h'), o2.fin h2.toSt0 (it_zipL (SqL.of h) r (SqL.of h') r')⟩⟩
  · rename_i ds es e1 e2
    rw [e1] at av2
    rw [e2] at bv
    obtain ⟨a, vs, rfl, h, r⟩ := av2
    obtain ⟨b, us, rfl, h', r'⟩ := bv
    exact ⟨a, b, vs, us, rfl, .inr ⟨SqT.of (h2.sub _ _ h), SqT.of (h2.sub _ _ h'), o2.fin h2.toSt0 (it_zipT (SqT.of h) r (SqT.of h') r')⟩⟩
  · exact o2.elim
theorem di_rev (F : Fx G X.K X.mg) {e : Expr} {p pos : Pos} {f : Sl → Mu → R SV} (hg : Gl X "reversed") (he : PE X e (tS X Wx f)) (hs : noStar e = true) : PI X tg (.Call (.Name "reversed" p) [e] [] pos) (tI X Wx fun s m => (f s m).bind fun x m1 => (match x.fz with
    | .lst ds => .ok ds.reverse m1
    | .tup ds => .ok ds.reverse m1
    | _ => .bad)) := by
  refine pi_imp (RT.pi_revA hg (F.blt "reversed" (by decide)) he (star_cons hs)) fun σ H Q ⟨W, s, m, hs, o⟩ => ?_
  refine runz rb_it hs o fun x m1 W1 v H1 h1 p1 av o1 => ?_
  split at o1
  · rename_i ds e
    rw [e] at av
    obtain ⟨a, vs, rfl, h, r⟩ := av
    exact ⟨a, vs, rfl, .inl ⟨SqL.of (h1.sub _ _ h), o1.fin h1.toSt0 (it_revL (SqL.of h) r)⟩⟩
  · rename_i ds e
    rw [e] at av
    obtain ⟨a, vs, rfl, h, r⟩ := av
    exact ⟨a, vs, rfl, .inr ⟨SqT.of (h1.sub _ _ h), o1.fin h1.toSt0 (it_revT (SqT.of h) r)⟩⟩
  · exact o1.elim
theorem di_revr (F : Fx G X.K X.mg) {e : Expr} {p p2 pos pos2 : Pos} {f : Sl → Mu → R SV} (hg : Gl X "reversed") (hg2 : Gl X "range") (he : PE X e (tS X Wx f)) (hs : noStar e = true) : PI X tg (.Call (.Name "reversed" p) [.Call (.Name "range" p2) [e] [] pos2] [] pos) (tI X Wx fun s m => (f s m).bind fun x m1 => (match x.fz with
    | .int n => guardR (r62 n) (.ok ((List.range n.toNat).map fun i => D.int (n - 1 - (i : Nat))) m1)
    | _ => .bad)) := by
  refine pi_imp (pi_revR hg (F.blt "reversed" (by decide)) (prg_1 hg2 (F.blt "range" (by decide)) he (star_cons hs)) rfl) fun σ H Q ⟨W, s, m, hs, o⟩ => ?_
  refine runz rb_it hs o fun x m1 W1 v H1 h1 p1 av o1 => ?_
  split at o1
  · rename_i n e
    rw [e] at av
    cases av
    generalize hb : r62 n = b at o1
    cases b with
    | false => exact o1.elim
    | true =>
      unfold r62 at hb
      rw [Bool.and_eq_true, decide_eq_true_eq, decide_eq_true_eq] at hb
      have o2 : OutG X.K X.mg (ItAt X.K X.mg) Wx W1 H1 σ (.ok ((List.range n.toNat).map fun i => D.int (n - 1 - (i : Nat))) m1) Q := o1
      refine ⟨n, rfl, by omega, by omega, hb.1, hb.2, ?_⟩
      have q := it_rngC (K := X.K) (mg := X.mg) (W0 := W1) (0 + (((n - 0).toNat : Nat) : Int) - 1) (-1) (n - 0).toNat (fun i => n - 1 - (i : Nat)) (fun i hi => by omega)
      rw [Int.sub_zero] at q ⊢
      exact o2.fin h1.toSt0 q
  · exact o1.elim
end
end Dp
end

section
set_option Elab.async false
set_option linter.all false
set_option maxRecDepth 100000
set_option maxHeartbeats 1000000
/-! The deep layer, part 11: targets, comprehensions. -/
namespace Dp
open PySem PySem.Spec PyProof.Rows L2
def gNames : List Nat → TGs
  | [] => gNil
  | i :: l => gCons (gName i) (gNames l)
def tGT (K : PySem.W.Frag) : T → TG
  | .nm i => gName i
  | .tp l => gTup K l.length (gNames l)
  | .tl l => gLst K l.length (gNames l)
def T.slots : T → List Nat
  | .nm i => [i]
  | .tp l => l
  | .tl l => l
section
variable {K : PySem.W.Frag} {mg : Str → Option Value} {W : Wd} {m : Mu} {H : Hp}
theorem wipe_set {σ : L2.St} {i : Nat} {o : Option V} : ∀ {vs : List Nat}, i ∈ vs → wipe (σ.set i o) vs = wipe σ vs
  | [], h => by simp at h
  | v :: vs, h => by
    unfold wipe
    by_cases hi : i ∈ vs
    · rw [wipe_set hi]
    · have e : i = v := by
        rcases List.mem_cons.mp h with e | e
        · exact e
        · exact absurd e hi
      subst e
      have key : ∀ (ws : List Nat), i ∉ ws → wipe (σ.set i o) ws = (wipe σ ws).set i o := by
        intro ws
        induction ws with
        | nil => intro _; rfl
        | cons w ws ih =>
          intro hw
          simp only [List.mem_cons, not_or] at hw
          unfold wipe
          rw [ih hw.2, List.set_comm _ _ (fun e => hw.1 e)]
      rw [key vs hi, List.set_set]
theorem wipe_wipe {σ : L2.St} : ∀ {us vs : List Nat}, (∀ i ∈ us, i ∈ vs) → wipe (wipe σ us) vs = wipe σ vs
  | [], _, _ => rfl
  | u :: us, vs, h => by
    show wipe ((wipe σ us).set u none) vs = _
    rw [wipe_set (h u (by simp)), wipe_wipe fun i hi => h i (by simp [hi])]
theorem Holds.wipe {s : Sl} {σ : L2.St} (h : Holds K mg W s m σ H) : ∀ vs : List Nat, Holds K mg W (wipeS s vs) m (wipe σ vs) H
  | [] => h
  | v :: vs => by
    have ih := h.wipe vs
    have e1 : ∀ (j : Nat) (x : SV), (wipeS s (v :: vs))[j]? = some (some x) → (wipeS s vs)[j]? = some (some x) ∧ j ≠ v := fun j x e => by
      have e : ((wipeS s vs).set v none)[j]? = some (some x) := e
      by_cases hj : v = j
      · subst hj
        by_cases hl : v < (wipeS s vs).length
        · rw [List.getElem?_set_self hl] at e
          cases e
        · rw [List.getElem?_eq_none (by simpa using hl)] at e
          cases e
      · rw [List.getElem?_set_ne hj] at e
        exact ⟨e, fun z => hj z.symm⟩
    have e2 : ∀ j : Nat, j ≠ v → (L2.wipe σ (v :: vs))[j]? = (L2.wipe σ vs)[j]? := fun j hj => by
      show ((L2.wipe σ vs).set v none)[j]? = _
      exact List.getElem?_set_ne (fun z => hj z.symm)
    refine ⟨ih.toSt0, ?_, fun j d e => ?_, fun j c e => ?_, fun j k c c' a a1 a2 b1 b2 => ?_⟩
    · show ((wipeS s vs).set v none).length = ((L2.wipe σ vs).set v none).length
      rw [List.length_set, List.length_set]
      exact ih.slen
    · obtain ⟨q, hj⟩ := e1 j _ e
      rw [e2 j hj]
      exact ih.slot j d q
    · obtain ⟨q, hj⟩ := e1 j _ e
      rw [e2 j hj]
      exact ih.own j c q
    · obtain ⟨q1, hj⟩ := e1 j _ a1
      obtain ⟨q2, hk⟩ := e1 k _ a2
      rw [e2 j hj] at b1
      rw [e2 k hk] at b2
      exact ih.dis j k c c' a q1 q2 b1 b2
/-- slots may be forgotten on the data's side alone -/
theorem Holds.forget {s : Sl} {σ : L2.St} (h : Holds K mg W s m σ H) : ∀ vs : List Nat, Holds K mg W (wipeS s vs) m σ H
  | [] => h
  | v :: vs => by
    have ih := h.forget vs
    have e1 : ∀ (j : Nat) (x : SV), (wipeS s (v :: vs))[j]? = some (some x) → (wipeS s vs)[j]? = some (some x) := fun j x e => by
      have e : ((wipeS s vs).set v none)[j]? = some (some x) := e
      by_cases hj : v = j
      · subst hj
        by_cases hl : v < (wipeS s vs).length
        · rw [List.getElem?_set_self hl] at e
          cases e
        · rw [List.getElem?_eq_none (by simpa using hl)] at e
          cases e
      · rw [List.getElem?_set_ne hj] at e
        exact e
    refine ⟨ih.toSt0, ?_, fun j d e => ih.slot j d (e1 j _ e), fun j c e => ih.own j c (e1 j _ e), fun j k c c' a a1 a2 b1 b2 => ih.dis j k c c' a (e1 j _ a1) (e1 k _ a2) b1 b2⟩
    show ((wipeS s vs).set v none).length = _
    rw [List.length_set]
    exact ih.slen
theorem bind_names {Q : L2.St → Hp → Prop} : ∀ (l : List Nat) (s : Sl) (σ : L2.St) (ds : List D) (vs : List V), l.length = ds.length → Holds K mg W s m σ H → Reps K mg W ds vs →
    (∀ σ2, Holds K mg W ((l.zip ds).foldl (fun s p => s.set p.1 (some (.val p.2))) s) m σ2 H → (∀ ws : List Nat, (∀ i ∈ l, i ∈ ws) → L2.wipe σ2 ws = L2.wipe σ ws) → Q σ2 H) → gNames l vs σ H Q
  | [], s, σ, [], vs, _, h, r, k => by
    cases r
    exact ⟨rfl, k σ h fun _ _ => rfl⟩
  | i :: l, s, σ, d :: ds, vs, hl, h, ⟨v, t, e, rv, rt⟩, k => by
    subst e
    refine ⟨v, t, rfl, bind_names l (s.set i (some (.val d))) (σ.set i (some v)) ds t (by simpa using hl) (h.put i (.inl ⟨d, rfl, rv⟩)) rt fun σ2 h2 hw => k σ2 h2 fun ws hws => ?_⟩
    rw [hw ws fun j hj => hws j (by simp [hj]), wipe_set (hws i (by simp))]
  | [], _, _, _ :: _, _, hl, _, _, _ => by simp at hl
  | _ :: _, _, _, [], _, hl, _, _, _ => by simp at hl
/-- a target is bound -/
theorem bind_ok {t : T} {s s2 : Sl} {σ : L2.St} {d : D} {v : V} {Q : L2.St → Hp → Prop} (h : Holds K mg W s m σ H) (r : Rep K mg W d v) (e : bindT s t d = some s2)
    (k : ∀ σ2, Holds K mg W s2 m σ2 H → (∀ ws : List Nat, (∀ i ∈ t.slots, i ∈ ws) → L2.wipe σ2 ws = L2.wipe σ ws) → Q σ2 H) : tGT K t v σ H Q := by
  cases t with
  | nm i =>
    cases e
    exact k _ (h.put i (.inl ⟨d, rfl, r⟩)) fun ws hw => wipe_set (hw i (by simp [T.slots]))
  | tp l =>
    cases d <;> try cases e
    rename_i ds
    have e' : (if l.length = ds.length then some ((l.zip ds).foldl (fun s p => s.set p.1 (some (.val p.2))) s) else none) = some s2 := e
    split at e'
    · rename_i hl
      cases e'
      obtain ⟨a, vs, rfl, hq, rs⟩ := r
      exact ⟨a, vs, rfl, SqT.of (h.sub _ _ hq), by rw [← rs.length, hl], bind_names l s σ ds vs hl h rs k⟩
    · cases e'
  | tl l =>
    cases d <;> try cases e
    rename_i ds
    have e' : (if l.length = ds.length then some ((l.zip ds).foldl (fun s p => s.set p.1 (some (.val p.2))) s) else none) = some s2 := e
    split at e'
    · rename_i hl
      cases e'
      obtain ⟨a, vs, rfl, hq, rs⟩ := r
      exact ⟨a, vs, rfl, SqL.of (h.sub _ _ hq), by rw [← rs.length, hl], bind_names l s σ ds vs hl h rs k⟩
    · cases e'
theorem Step.updFresh {W2 : Wd} {H1 H2 : Hp} {p : Addr} (q : Step W H1 W2 H2) (hp : H1 p = none) (o : HO) : Step W H1 W2 (upd H2 p o) :=
  ⟨q.sub, q.th, fun b u e n => by rw [upd_ne (ne_of_none e hp)]; exact q.keep b u e n, q.nofz⟩
end
/-- within a block no exception may leave -/
def Wx0 : WX := fun _ _ _ _ => False
section
variable {K : PySem.W.Frag} {mg : Str → Option Value}
theorem out0 {α β : Type} {A : Wd → Hp → Hp → α → β → Prop} {W : Wd} {H : Hp} {σ : L2.St} {a : α} {m' : Mu} {Q : β → Hp → Prop} (h : ∀ (W' : Wd) (b : β) (H' : Hp), St0 K mg W' m' H' → Step W H W' H' → A W' H H' a b → Q b H') : OutG K mg A Wx0 W H σ (.ok a m') Q := h
theorem outN {α β γ : Type} {A : Wd → Hp → Hp → γ → β → Prop} {Wx : WX} {W : Wd} {H : Hp} {σ : L2.St} {r : R α} {f : α → Mu → R γ} {Q : β → Hp → Prop} (h : OutG K mg A Wx W H σ (r.bindN f) Q) : ∃ a m, r = .ok a m ∧ OutG K mg A Wx W H σ (f a m) Q := by
  cases r with
  | ok a m => exact ⟨a, m, rfl, h⟩
  | ex x m => exact h.elim
  | bad => exact h.elim
end
section
variable {X : Cx} {Wx : WX}
/-- what is walked while nothing but the shared cells changes -/
structure ItS (K : PySem.W.Frag) (mg : Str → Option Value) (W0 : Wd) (H0 : Hp) (ds : List D) (J : It) : Prop where
  go : ∀ (W : Wd) (m : Mu) (H : Hp) (i : Nat), Step W0 H0 W H → St0 K mg W m H → i < ds.length → J.go i H
  stop : ∀ (W : Wd) (m : Mu) (H : Hp) (i : Nat), Step W0 H0 W H → St0 K mg W m H → ds.length ≤ i → J.stop i H
  yld : ∀ (W : Wd) (m : Mu) (H : Hp) (i : Nat) (x : V) (H' : Hp), Step W0 H0 W H → St0 K mg W m H → i < ds.length → J.yld i H x H' → ∃ W2 d, ds[i]? = some d ∧ St0 K mg W2 m H' ∧ Step W H W2 H' ∧ Rep K mg W2 d x
theorem ItOk.s {K : PySem.W.Frag} {mg : Str → Option Value} {W0 : Wd} {H0 : Hp} {ds : List D} {J : It} (h : ItOk K mg W0 ds J) : ItS K mg W0 H0 ds J :=
  ⟨fun W m H i p => h.go W m H i p.le, fun W m H i p => h.stop W m H i p.le, fun W m H i x H' p => h.yld W m H i x H' p.le⟩
theorem it_own {K : PySem.W.Frag} {mg : Str → Option Value} {W0 : Wd} {H0 : Hp} {ds : List D} {a : Addr} (o : Own K mg W0 H0 a (.lst ds)) : ItS K mg W0 H0 ds (Itl K a) where
  go := fun W m H i p st hi => by
    obtain ⟨vs, e, r⟩ := (o.step p).at_
    have hi' : i < vs.length := by rw [← r.length]; exact hi
    exact ⟨vs, vs[i], SqL.of e, List.getElem?_eq_getElem hi'⟩
  stop := fun W m H i p st hi => by
    obtain ⟨vs, e, r⟩ := (o.step p).at_
    exact ⟨vs, SqL.of e, by rw [← r.length]; exact hi⟩
  yld := fun W m H i x H' p st hi y => by
    obtain ⟨vs, e, r⟩ := (o.step p).at_
    obtain ⟨rfl, q⟩ := y
    obtain ⟨d, e2, rd⟩ := r.getV (q vs (SqL.of e))
    exact ⟨W, d, e2, st, Step.refl _ _, rd⟩
/-- the turns of a comprehension -/
def lcF (t : T) (vs : List Nat) (fc : Sl → Mu → R Bool) (fe : Sl → Mu → R SV) (s : Sl) (d : D) (m2 : Mu) : R (Option D) := match bindT (wipeS s vs) t d with
  | some s2 => (fc s2 m2).bind fun b m3 => if b = true then (fe s2 m3).bind fun x m4 => .ok (some x.fz) m4 else .ok none m3
  | none => .bad
def lcP (X : Cx) (Wx : WX) (W1 : Wd) (H1 : Hp) (σ : L2.St) (Q : VK) (ds : List D) (F : D → Mu → R (Option D)) (D : Addr) (i : Nat) (H : Hp) : Prop :=
  ∃ (W2 : Wd) (m2 : Mu) (acc : List Dp.D) (us : List V), i ≤ ds.length ∧ St0 X.K X.mg W2 m2 H ∧ Step W1 H1 W2 H ∧ H D = some (.lst us) ∧ Reps X.K X.mg W2 acc us ∧ W2.Hf D = none ∧ D ∉ W2.th ∧
    OutG X.K X.mg (SvAt X.K X.mg) Wx W1 H1 σ ((lcL F (ds.drop i) acc m2).bind fun r m5 => .ok (.own (.lst r)) m5) Q
theorem lc_turns {W1 : Wd} {s : Sl} {m1 : Mu} {σ : L2.St} {H1 : Hp} {Q : VK} {ds : List D} {J : It} {t : T} {vs : List Nat} {fc : Sl → Mu → R Bool} {fe : Sl → Mu → R SV} (h1 : Holds X.K X.mg W1 s m1 σ H1) (it : ItS X.K X.mg W1 H1 ds J) (hv : ∀ i ∈ t.slots, i ∈ vs)
    (o : OutG X.K X.mg (SvAt X.K X.mg) Wx W1 H1 σ ((lcL (lcF t vs fc fe s) ds [] m1).bind fun r m5 => .ok (.own (.lst r)) m5) Q) (D : Addr) (hD : H1 D = none) :
    ∃ Wm : Nat → Nat → Hp → Prop, (∃ m, Wm 0 m (upd H1 D (.lst []))) ∧ ∀ i m H, Wm i m H →
      (J.stop i H ∧ Q (.ref D) H) ∨ (J.go i H ∧ ∃ Nx : Hp → Prop, (∀ H', Nx H' → ∃ m', m' < m ∧ Wm (i + 1) m' H') ∧ ∀ x H', J.yld i H x H' → tGT X.K t x (wipe σ vs) H' fun σ2 H2 => wipe σ2 vs = wipe σ vs ∧ tT X Wx0 fc σ2 H2 fun b H3 =>
        if b = true then tS X Wx0 fe σ2 H3 fun y H4 => ∃ acc, H4 D = some (.lst acc) ∧ acc.length < sizeLine ∧ Nx (upd H4 D (.lst (acc ++ [y]))) else Nx H3) := by
  obtain ⟨x0, p0, n1, n2⟩ := h1.toSt0.made hD (.lst [])
  refine ⟨fun i n H => n = ds.length - i ∧ lcP X Wx W1 H1 σ Q ds (lcF t vs fc fe s) D i H, ⟨_, rfl, W1, m1, [], [], Nat.zero_le _, x0, p0, upd_same, rfl, n1, n2, o⟩, ?_⟩
  rintro i n H ⟨rfl, W2, m2, acc, us, hi, x2, p2, hu, ru, z1, z2, o2⟩
  by_cases hlt : i < ds.length
  · refine .inr ⟨it.go W2 m2 H i p2 x2 hlt, lcP X Wx W1 H1 σ Q ds (lcF t vs fc fe s) D (i + 1), fun H' q => ⟨ds.length - (i + 1), ?_, rfl, q⟩, fun x H' y => ?_⟩
    · omega
    · obtain ⟨W3, d, hd, x3, p3, rd⟩ := it.yld W2 m2 H i x H' p2 x2 hlt y
      have ed : ds.drop i = d :: ds.drop (i + 1) := by
        rw [List.drop_eq_getElem_cons hlt]
        have e := hd
        rw [List.getElem?_eq_getElem hlt] at e
        cases e
        rfl
      rw [ed] at o2
      have p13 := p2.trans x2 p3
      have hw := (h1.step p13 x3).wipe vs
      have ob : OutG X.K X.mg (SvAt X.K X.mg) Wx W1 H1 σ (((lcF t vs fc fe s d m2).bindN fun o m1 => (match o with
        | some x => guardR (decide (acc.length < sizeLine)) (lcL (lcF t vs fc fe s) (ds.drop (i + 1)) (acc ++ [x]) m1)
        | none => lcL (lcF t vs fc fe s) (ds.drop (i + 1)) acc m1)).bind fun r m5 => .ok (.own (.lst r)) m5) Q := o2
      cases eF : lcF t vs fc fe s d m2 with
      | bad => rw [eF] at ob; exact ob.elim
      | ex _ _ => rw [eF] at ob; exact ob.elim
      | ok od m6 =>
        rw [eF] at ob
        have ob : OutG X.K X.mg (SvAt X.K X.mg) Wx W1 H1 σ ((match od with
          | some x => guardR (decide (acc.length < sizeLine)) (lcL (lcF t vs fc fe s) (ds.drop (i + 1)) (acc ++ [x]) m6)
          | none => lcL (lcF t vs fc fe s) (ds.drop (i + 1)) acc m6).bind fun r m5 => .ok (.own (.lst r)) m5) Q := ob
        unfold lcF at eF
        cases eb : bindT (wipeS s vs) t d with
        | none => rw [eb] at eF; cases eF
        | some s2 =>
          rw [eb] at eF
          refine bind_ok hw rd eb fun σ2 h3 hwp => ⟨?_, ?_⟩
          · rw [hwp vs hv, wipe_wipe fun i hi => hi]
          · refine ⟨W3, s2, m2, h3, ?_⟩
            have eF : (fc s2 m2).bind (fun b m3 => if b = true then (fe s2 m3).bind fun x m4 => .ok (some x.fz) m4 else .ok none m3) = R.ok od m6 := eF
            cases ec : fc s2 m2 with
            | bad => rw [ec] at eF; cases eF
            | ex _ _ => rw [ec] at eF; cases eF
            | ok b m3 =>
              rw [ec] at eF
              intro W4 b' H3 x4 p4 eb'
              obtain rfl : b = b' := eb'
              have h4 := h3.step p4 x4
              have eF : (if b = true then (fe s2 m3).bind fun x m4 => .ok (some x.fz) m4 else .ok none m3) = R.ok od m6 := eF
              have p14 := p13.trans x3 p4
              have hD3 := p3.keep D _ hu z2
              have w1 := p3.nofz D _ hu z1 z2 (fun _ q => nomatch q)
              have w2 := p3.nth hu z2
              have hD4 := p4.keep D _ hD3 w2
              have w3 := p4.nofz D _ hD3 w1 w2 (fun _ q => nomatch q)
              have w4 := p4.nth hD3 w2
              cases b with
              | false =>
                rw [if_neg Bool.false_ne_true] at eF ⊢
                cases eF
                exact ⟨W4, _, acc, us, hlt, x4, p14, hD4, Reps.mono (p3.le.trans p4.le) _ _ ru, w3, w4, ob⟩
              | true =>
                rw [if_pos rfl] at eF ⊢
                refine ⟨W4, s2, m3, h4, ?_⟩
                cases ee : fe s2 m3 with
                | bad => rw [ee] at eF; cases eF
                | ex _ _ => rw [ee] at eF; cases eF
                | ok xv m4 =>
                  rw [ee] at eF
                  cases eF
                  intro W5 yv H4 x5 p5 sv
                  obtain ⟨W6, h6, p6, r6, l6⟩ := freeze_new h4 p5 (h4.step p5 x5) sv
                  have hD5 := p6.keep D _ hD4 w4
                  have w5 := p6.nofz D _ hD4 w3 w4 (fun _ q => nomatch q)
                  have w6 := p6.nth hD4 w4
                  obtain ⟨gd, ob⟩ := (show (decide (acc.length < sizeLine)) = true ∧ OutG X.K X.mg (SvAt X.K X.mg) Wx W1 H1 σ ((lcL (lcF t vs fc fe s) (ds.drop (i + 1)) (acc ++ [xv.fz]) m6).bind fun r m5 => .ok (.own (.lst r)) m5) Q by
                    cases hg : decide (acc.length < sizeLine) with
                    | false => rw [hg] at ob; exact ob.elim
                    | true => rw [hg] at ob; exact ⟨rfl, ob⟩)
                  have gd := of_decide_eq_true gd
                  have ru6 := Reps.mono ((p3.le.trans p4.le).trans p6.le) _ _ ru
                  refine ⟨us, hD5, by rw [← ru.length]; exact gd, W6, m6, acc ++ [xv.fz], us ++ [yv], hlt, h6.toSt0.write w5 w6 _, (p14.trans x4 p6).updFresh hD _, upd_same, ru6.append (Reps.one r6), w5, w6, ob⟩
  · have e : i = ds.length := by omega
    subst e
    refine .inl ⟨it.stop W2 m2 H _ p2 x2 (Nat.le_refl _), ?_⟩
    rw [List.drop_length] at o2
    exact o2.fin2 x2 p2 ⟨D, rfl, ⟨⟨us, hu, ru⟩, z1, z2⟩, hD⟩
theorem de_lc (hc : X.calm = true) (hN : X.N.Nodup) {elt tg iter : Expr} {ifs : List Expr} {scope : Scope} {own : List (Str × Nat)} {pos : Pos} {t : T} {fi : Sl → Mu → R (List D)} {fc : Sl → Mu → R Bool} {fe : Sl → Mu → R SV} (hi : PI X tg iter (tI X Wx fi)) (ok : BlkOk X.N X.env.scope scope own) (hv : ∀ i ∈ t.slots, i ∈ own.map (·.2))
    (hg : ∀ (s : Shared) (H : Hp) (C : Addr) (cl : List (Str × Addr)) (fp : List Addr), PG (X.blk s H scope (compEnvC scope cl C X.env) fp) tg (tGT X.K t)) (ht : ∀ (s : Shared) (H : Hp) (C : Addr) (cl : List (Str × Addr)) (fp : List Addr), PTs (X.blk s H scope (compEnvC scope cl C X.env) fp) ifs (tT X Wx0 fc))
    (he : ∀ (s : Shared) (H : Hp) (C : Addr) (cl : List (Str × Addr)) (fp : List Addr), PE (X.blk s H scope (compEnvC scope cl C X.env) fp) elt (tS X Wx0 fe)) (hs : ∀ x, foldedSetIterable iter X.env x = pure x) :
    PE X (.ListComp elt [⟨tg, iter, ifs, 0⟩] scope pos) (tS X Wx fun s m => (fi s m).bind fun ds m1 => (lcL (lcF t (own.map (·.2)) fc fe s) ds [] m1).bind fun r m5 => .ok (.own (.lst r)) m5) := by
  refine pe_imp (pe_lc hc hN hi ok hg ht he hs) fun σ H Q ⟨W, s, m, hs, o⟩ => ?_
  refine run rb_sv hs o fun ds m1 W1 J H1 _ h1 p1 it o1 D hD => ?_
  exact lc_turns h1 it.s hv o1 D hD
/-- over one's own list -/
theorem de_lco (hc : X.calm = true) (hN : X.N.Nodup) {elt tg iter : Expr} {ifs : List Expr} {scope : Scope} {own : List (Str × Nat)} {pos : Pos} {t : T} {i : Nat} {fc : Sl → Mu → R Bool} {fe : Sl → Mu → R SV} (hi : PE X iter (tVar i)) (ok : BlkOk X.N X.env.scope scope own) (hv : ∀ i ∈ t.slots, i ∈ own.map (·.2))
    (hg : ∀ (s : Shared) (H : Hp) (C : Addr) (cl : List (Str × Addr)) (fp : List Addr), PG (X.blk s H scope (compEnvC scope cl C X.env) fp) tg (tGT X.K t)) (ht : ∀ (s : Shared) (H : Hp) (C : Addr) (cl : List (Str × Addr)) (fp : List Addr), PTs (X.blk s H scope (compEnvC scope cl C X.env) fp) ifs (tT X Wx0 fc))
    (he : ∀ (s : Shared) (H : Hp) (C : Addr) (cl : List (Str × Addr)) (fp : List Addr), PE (X.blk s H scope (compEnvC scope cl C X.env) fp) elt (tS X Wx0 fe)) (hs : ∀ x, foldedSetIterable iter X.env x = pure x) :
    PE X (.ListComp elt [⟨tg, iter, ifs, 0⟩] scope pos) (tS X Wx fun s m => match s[i]? with
      | some (some (.own (.lst ds))) => (lcL (lcF t (own.map (·.2)) fc fe s) ds [] m).bind fun r m5 => .ok (.own (.lst r)) m5
      | _ => .bad) := by
  refine pe_imp (pe_lc hc hN (pi_sq hi) ok hg ht he hs) fun σ H Q ⟨W, s, m, hs, o⟩ => ?_
  dsimp only at o
  split at o
  · rename_i ds e
    obtain ⟨a, e1, ow⟩ := hs.own i _ e
    obtain ⟨vs, eh, r⟩ := id ow.at_
    exact ⟨.ref a, e1, a, vs, rfl, .inl ⟨SqL.of eh, fun D hD => lc_turns hs (it_own ow) hv o D hD⟩⟩
  · exact o.elim
theorem dts_nil {X : Cx} : PTs X [] (tT X Wx0 fun _ m => .ok true m) := ⟨fun pins s σ H Q I ⟨W, sl, m, hs, o⟩ => pts_nil.run pins s σ H Q I (o.fin hs.toSt0 rfl)⟩
theorem dts_one {X : Cx} {c : Expr} {f : Sl → Mu → R Bool} (h : PT X c (tT X Wx0 f)) : PTs X [c] (tT X Wx0 f) := pts_one h
end
end Dp
end

section
set_option Elab.async false
set_option linter.all false
set_option maxRecDepth 100000
set_option maxHeartbeats 1000000
/-! The deep layer, part 12: calls. -/
namespace Dp
open PySem PySem.Spec PyProof.Rows L2
/-! ### a def's promise -/
def WE0 (E : XK) : WX := fun cls d _ H => E cls d H
def spF (G : Prog) (K : PySem.W.Frag) (mg : Str → Option Value) (n k : Nat) : Sp := fun vs H Q E =>
  ∃ (f : Fn) (W : Wd) (ds : List D) (m : Mu), G.fns[k]? = some f ∧ ds.length = f.ps.length ∧ St0 K mg W m H ∧ Reps K mg W ds vs ∧ OutG K mg (SvAt K mg) (WE0 E) W H [] (callN G n k ds m) Q
structure FnF (G : Prog) (P : Program) (w : World) (K : PySem.W.Frag) (mg : Str → Option Value) (base : Heap) (n k : Nat) (f : Fn) : Prop where
  ok : ∃ fd, FnOk P w K mg base (L2.CX P w) (2 * n) (fAw K f.at_) fd f.ps (spF G K mg n k) ∧
    ∀ j, j ≤ f.ps.length → f.ps.length ≤ j + f.dfl.length → ∃ (dvs : List V) (ds : List Value), Vals dvs ds ∧ Binds K fd f.ps ds ∧ ∀ W : Wd, Reps K mg W (f.dfl.drop (j + f.dfl.length - f.ps.length)) dvs
  kp : PySem.W.keepIn K (.ref (fAw K f.at_)) = true
structure Xok (G : Prog) (n : Nat) (X : Cx) (Wx : WX) : Prop where
  calm : X.calm = true
  nd : X.N.Nodup
  room : Room (2 * n + 1) X.A
  tk : Takes X Wx
  fx : Fx G X.K X.mg
  fns : ∀ k f, G.fns[k]? = some f → FnF G X.prog X.w X.K X.mg X.base n k f
theorem Xok.units {G : Prog} {n : Nat} {X : Cx} {Wx : WX} (x : Xok G n X Wx) : X.A.units + 200 < cLine := by
  have := x.room.un
  omega
theorem Xok.blk {G : Prog} {n : Nat} {X : Cx} {Wx : WX} (x : Xok G n X Wx) (s : Shared) (H : Hp) (scope : Scope) (cenv : Env) (fp : List Addr) : Xok G n (X.blk s H scope cenv fp) Wx0 where
  calm := x.calm
  nd := x.nd
  room := x.room
  tk := takes0
  fx := x.fx
  fns := x.fns
theorem OutG.wx {K : PySem.W.Frag} {mg : Str → Option Value} {α β : Type} {A : Wd → Hp → Hp → α → β → Prop} {Wx : WX} {W : Wd} {H : Hp} {σ σ' : L2.St} {r : R α} {Q : β → Hp → Prop} (h : OutG K mg A Wx W H σ r Q) : OutG K mg A (WE0 (WE Wx σ)) W H σ' r Q := by
  cases r with
  | ok a m => exact h
  | ex x m => exact h
  | bad => exact h
theorem fill_len {f : Fn} {ds : List D} {j : Nat} (h : (fill f ds).length = f.ps.length) : ds.length ≤ f.ps.length ∧ f.ps.length ≤ ds.length + f.dfl.length := by
  unfold fill at h
  rw [List.length_append, List.length_drop] at h
  omega
theorem fill_fill {f : Fn} {ds : List D} (h : (fill f ds).length = f.ps.length) : fill f (fill f ds) = fill f ds := by
  have : (fill f ds).length + f.dfl.length - f.ps.length = f.dfl.length := by omega
  show fill f ds ++ f.dfl.drop ((fill f ds).length + f.dfl.length - f.ps.length) = _
  rw [this, List.drop_length, List.append_nil]
theorem callN_fill {G : Prog} {n k : Nat} {f : Fn} {ds : List D} {m : Mu} (hf : G.fns[k]? = some f) (h : (fill f ds).length = f.ps.length) : callN G n k (fill f ds) m = callN G n k ds m := by
  cases n with
  | zero => rfl
  | succ n =>
    unfold callN
    rw [hf]
    dsimp only
    rw [fill_fill h]
theorem callN_ok {G : Prog} {n k : Nat} {f : Fn} {ds : List D} {m : Mu} (hf : G.fns[k]? = some f) (h : callN G n k ds m ≠ .bad) : (fill f ds).length = f.ps.length := by
  cases n with
  | zero => exact absurd rfl h
  | succ n =>
    unfold callN at h
    rw [hf] at h
    dsimp only at h
    split at h
    · assumption
    · exact absurd rfl h
theorem callN_fn {G : Prog} {n k : Nat} {ds : List D} {m : Mu} (h : callN G n k ds m ≠ .bad) : ∃ f, G.fns[k]? = some f := by
  cases n with
  | zero => exact absurd rfl h
  | succ n =>
    unfold callN at h
    cases e : G.fns[k]? with
    | none => rw [e] at h; exact absurd rfl h
    | some f => exact ⟨f, rfl⟩
theorem out_nb {K : PySem.W.Frag} {mg : Str → Option Value} {α β : Type} {A : Wd → Hp → Hp → α → β → Prop} {Wx : WX} {W : Wd} {H : Hp} {σ : L2.St} {r : R α} {Q : β → Hp → Prop} (h : OutG K mg A Wx W H σ r Q) : r ≠ .bad := fun e => by
  rw [e] at h
  exact h
section
variable {X : Cx} {Wx : WX} {G : Prog} {n : Nat}
theorem lookup_zip_none {f : Str} : ∀ {ns : List Str} {vs : List V}, f ∉ ns → (ns.zip vs).lookup f = none
  | [], _, _ => rfl
  | _ :: _, [], _ => rfl
  | g :: ns, v :: vs, h => by
    simp only [List.mem_cons, not_or] at h
    rw [List.zip_cons_cons, List.lookup_cons, beq_eq_false_iff_ne.mpr h.1]
    exact lookup_zip_none h.2
/-- what is asked of a callee -/
theorem sp_of {W : Wd} {m : Mu} {H : Hp} {σ : L2.St} {Q : VK} {k : Nat} {f : Fn} {ds : List D} {vs dvs : List V} (hf : G.fns[k]? = some f) (hl : (fill f ds).length = f.ps.length) (st : St0 X.K X.mg W m H) (r : Reps X.K X.mg W ds vs) (rd : Reps X.K X.mg W (f.dfl.drop (ds.length + f.dfl.length - f.ps.length)) dvs)
    (o : OutG X.K X.mg (SvAt X.K X.mg) Wx W H σ (callN G n k ds m) Q) : spF G X.K X.mg n k (vs ++ dvs) H Q (WE Wx σ) :=
  ⟨f, W, fill f ds, m, hf, hl, st, r.append rd, by rw [callN_fill hf hl]; exact o.wx⟩
theorem run_at {A' : Around} {CX : CXT} {k : Nat} {f : Addr} {fd : FuncData} {ps : List Str} {sp : Sp} {dvs : List V} {ds : List Value} {E : XK} {pins : List (Addr × Obj)} {σ : L2.St} {H : Hp} {s : Shared} {Q : VK} {us : List Value} {vs : List V} (F : FnOk X.prog X.w X.K X.mg X.base CX k f fd ps sp) (hr : Room k A')
    (e0 : Env0 X.prog X.w X.K X.mg X.base A' X.stack s H) (hb : Binds X.K fd ps ds) (hd : Vals dvs ds) (hx : PassesAt CX X σ E)
    (I : L2.Inv X pins σ H s) (r : Vals vs us) (h : sp (vs ++ dvs) H Q E) : wpAny (model X.prog X.w) A' (call (.ref f) us) (EP X pins σ Q) X.xe s := by
  have r2 : Vals (vs ++ dvs) (us ++ ds) := r.append hd
  have hl : (us ++ ds).length = ps.length := by rw [← r2.length]; exact F.len _ _ _ _ h
  refine wpAny_call (codeAny_mono (F.run A' X.stack s H ⟨us, []⟩ (us ++ ds) (vs ++ dvs) Q E hr e0 (hb s us I.kIn hl) r2 h) fun r s' hq => ?_)
  cases r with
  | error e => exact hx pins H s e s' I hq
  | ok fl =>
    cases fl with
    | ret u => exact I.after hq
    | next => exact False.elim hq
    | brk => exact False.elim hq
    | cont => exact False.elim hq
/-- THE CALL of the k-th def -/
theorem run_fnk (x : Xok G n X Wx) {pins : List (Addr × Obj)} {σ : L2.St} {W : Wd} {m : Mu} {H : Hp} {s : Shared} {Q : VK} {k : Nat} {f : Fn} {ds : List D} {vs : List V} {us : List Value} (hf : G.fns[k]? = some f) (I : L2.Inv X pins σ H s) (r : Vals vs us) (st : St0 X.K X.mg W m H) (rd : Reps X.K X.mg W ds vs)
    (o : OutG X.K X.mg (SvAt X.K X.mg) Wx W H σ (callN G n k ds m) Q) : wpAny (model X.prog X.w) X.A (call (.ref (fAw X.K f.at_)) us) (EP X pins σ Q) X.xe s := by
  have hl := callN_ok hf (out_nb o)
  obtain ⟨fd, F, B⟩ := (x.fns k f hf).ok
  obtain ⟨h1, h2⟩ := fill_len (j := 0) hl
  obtain ⟨dvs, dz, vd, bd, rdd⟩ := B ds.length h1 h2
  exact run_at F (x.room.mono (by omega)) I.env0 bd vd (passAt x.tk σ) I r (sp_of hf hl st rd (rdd W) o)
theorem glo_fad {K : PySem.W.Frag} {f : Fn} (h : f.at_.2 = none) : fAw K f.at_ = He.ga K f.at_.1 := by
  unfold fAw
  rw [h]
/-- f(e, ..) -/
theorem de_call (x : Xok G n X Wx) {k : Nat} {f : Fn} {e : Expr} {es : List Expr} {p pos : Pos} {fa : Sl → Mu → R (List D)} (hf : G.fns[k]? = some f) (hat : f.at_.2 = none) (hdb : (f.at_.1 == ("__debug__" : Str)) = false) (hg : Gl X f.at_.1) (n1 : noStar e = true) (n2 : es.all noStar = true) (ha : PA X (e :: es) (tL X Wx fa)) :
    PE X (.Call (.Name f.at_.1 p) (e :: es) [] pos) (tS X Wx fun s m => (fa s m).bind fun ds m1 => callN G n k ds m1) := by
  refine ⟨fun pins s σ H Q I h => ?_⟩
  have hm := x.fx.glo f (List.mem_of_getElem? hf) hat
  have kp := (x.fns k f hf).kp
  have fin : tL X Wx fa σ H fun vs H1 => ∃ (W1 : Wd) (m1 : Mu) (ds : List D), St0 X.K X.mg W1 m1 H1 ∧ Reps X.K X.mg W1 ds vs ∧ OutG X.K X.mg (SvAt X.K X.mg) Wx W1 H1 σ (callN G n k ds m1) Q := by
    obtain ⟨W, sl, m, hs, o⟩ := h
    exact run rb_sv hs o fun ds m1 W1 vs H1 _ h1 p1 r o1 => ⟨W1, m1, ds, h1.toSt0, r, o1⟩
  refine wpAny_Call_Name_kw (ld_glob I hg hm ?_ hdb)
  rw [← glo_fad hat]
  refine PySem.W.callWith_K (h₀ := X.base) I.ok.mod.kin kp (thn (ha.run pos pins s σ H _ I fin) fun us s1 ⟨vs, H1, I1, r, W1, m1, ds, st, rd, o1⟩ => ⟨I1.kIn, ?_⟩) (star_cons n1) (star_any n2)
  exact run_fnk x hf I1 r st rd o1
theorem de_call0 (x : Xok G n X Wx) {k : Nat} {f : Fn} {p pos : Pos} (hf : G.fns[k]? = some f) (hat : f.at_.2 = none) (hdb : (f.at_.1 == ("__debug__" : Str)) = false) (hg : Gl X f.at_.1) :
    PE X (.Call (.Name f.at_.1 p) [] [] pos) (tS X Wx fun s m => callN G n k [] m) := by
  refine ⟨fun pins s σ H Q I ⟨W, sl, m, hs, o⟩ => ?_⟩
  have hm := x.fx.glo f (List.mem_of_getElem? hf) hat
  have kp := (x.fns k f hf).kp
  refine wpAny_Call_Name_kw (ld_glob I hg hm ?_ hdb)
  rw [← glo_fad hat]
  exact PySem.W.callWith_K0 I.kIn kp (run_fnk x hf I .nil hs.toSt0 Reps.nil o)
/-- an instance's method -/
theorem de_meth (x : Xok G n X Wx) {o e : Expr} {es : List Expr} {mn : Str} {cs : List (Str × Nat)} {apos pos : Pos} {pl : Sem Bool} {fo : Sl → Mu → R SV} {fa : Sl → Mu → R (List D)} (hcs : ∀ c k, cs.lookup c = some k → ((c, mn), k) ∈ G.mets) (ho : PE X o (tS X Wx fo)) (n1 : noStar e = true) (n2 : es.all noStar = true) (ha : PA X (e :: es) (tL X Wx fa))
    (ht : eval (.Call (.Attribute o mn apos) (e :: es) [] pos) X.env = (do
      let ov ← eval o X.env
      standAt apos.atName
      let (f, first) ← holding [ov] (getMethod ov mn pl)
      callWith pos f first (backTo pos (starEach (e :: es) X.env)) (backToKw pos (keywordEach [] X.env)))) :
    PE X (.Call (.Attribute o mn apos) (e :: es) [] pos) (tS X Wx fun s m => (fo s m).bind fun x m1 => (match seeD m1 x.fz with
    | .ins c ns _ => (match cs.lookup c with
      | some k => guardR (!ns.contains mn) ((fa s m1).bind fun ds m2 => callN G n k (x.fz :: ds) m2)
      | none => .bad)
    | _ => .bad)) := by
  refine ⟨fun pins s σ H Q I ⟨W, sl, m, hs, out⟩ => ?_⟩
  refine methcall_of ho I (runz rb_sv hs out fun xv m1 W1 v H1 h1 p1 av o1 => ?_) ht
  split at o1
  · rename_i c ns fs e1
    split at o1
    · rename_i k e2
      obtain ⟨g, o1⟩ := guard_t o1
      have hv := see_rep (m := m1) h1.toSt0 av
      rw [e1] at hv
      obtain ⟨a, dx, vs, rfl, hh, hl, rr⟩ := hv.ins h1.sub
      obtain ⟨f, hf, cl, me⟩ := x.fx.mets _ (hcs c k e2)
      refine ⟨a, _, dx, _, _, rfl, hh, cl, me, ?_, fun s1 I1 => ?_⟩
      · have : mn ∉ ns := by simpa using g
        exact lookup_zip_none this
      · have fin : tL X Wx fa σ H1 fun vs H2 => ∃ (W2 : Wd) (m2 : Mu) (ds : List D), St0 X.K X.mg W2 m2 H2 ∧ Rep X.K X.mg W2 xv.fz (.ref a) ∧ Reps X.K X.mg W2 ds vs ∧ OutG X.K X.mg (SvAt X.K X.mg) Wx W2 H2 σ (callN G n k (xv.fz :: ds) m2) Q :=
          run rb_sv h1 o1 fun ds m2 W2 vs H2 _ h2 p2 r o2 => ⟨W2, m2, ds, h2.toSt0, Rep.mono p2.le _ _ av, r, o2⟩
        refine PySem.W.callWith_K (first := [.ref a]) (h₀ := X.base) I1.ok.mod.kin me.kp (thn (ha.run pos pins s1 σ H1 _ I1 fin) fun us s2 ⟨vs, H2, I2, r, W2, m2, ds, st, ra, rd, o2⟩ => ⟨I2.kIn, ?_⟩) (star_cons n1) (star_any n2)
        exact run_fnk x (vs := V.ref a :: vs) (us := Value.ref a :: us) hf I2 (.cons rfl r) st (Reps.cons ra rd) o2
    · exact o1.elim
  · exact o1.elim
end
end Dp
end

section
set_option Elab.async false
set_option linter.all false
set_option maxRecDepth 100000
set_option maxHeartbeats 1000000
/-! The deep layer, part 13: instances, shared cells, dicts. -/
namespace Dp
open PySem PySem.Spec PyProof.Rows L2
/-! ### trees of calls -/
def noSup : Expr → Bool
  | .Call (.Name _ _) [] [] _ => false
  | _ => true
theorem base_eq {o : Expr} {attr : Str} {env : Env} {whole : Sem Value} (h : noSup o = true) : attributeBase o attr env whole = whole := by
  unfold attributeBase
  split
  · cases h
  · rfl
theorem star_all {pos : Pos} {env : Env} : ∀ {es : List Expr}, es.all noStar = true → (backTo pos (starEach es env)).all (!·.1) = true
  | [], _ => rfl
  | e :: es, h => by
    obtain ⟨h1, h2⟩ := Bool.and_eq_true_iff.mp (show (noStar e && es.all noStar) = true from h)
    rw [star_cons h1]
    show (true && (backTo pos (starEach es env)).all (!·.1)) = true
    rw [star_all h2]
    rfl
theorem meth_tree {o : Expr} {mn : Str} {apos pos : Pos} {args : List Expr} {env : Env} (h1 : noSup o = true) (hn : args.all noStar = true) (hl : (apos.endLine == pos.line) = true) (hf : args.length < 30) :
    eval (.Call (.Attribute o mn apos) args [] pos) env = (do
      let ov ← eval o env
      standAt apos.atName
      let (f, first) ← holding [ov] (getMethod ov mn (do return (← importBound o env).getD true))
      callWith pos f first (backTo pos (starEach args env)) (backToKw pos (keywordEach [] env))) := by
  have e0 : methodCallForm (args.length + 0) (backTo pos (starEach args env)) [] = true := by
    unfold methodCallForm
    rw [star_all hn]
    simp [hf]
  show (do
      let ov ← attributeBase o mn env (eval o env)
      standAt apos.atName
      methodCall o mn apos pos env ov (args.length + 0) (backTo pos (starEach args env)) []) = _
  rw [base_eq h1]
  unfold methodCall
  rw [e0]
  unfold calleeOf methodCallPos
  rw [hl]
  rfl
/-! ### shared cells -/
section
variable {K : PySem.W.Frag} {mg : Str → Option Value} {W W1 W2 : Wd} {H H1 H2 : Hp} {m m1 m2 : Mu}
theorem St0.setCell (x : St0 K mg W m H) {i : Nat} {a : Addr} {c : Cell} {o : HO} (hi : W.th[i]? = some a) (hc : CellAt K mg W (upd H a o) a c) : St0 K mg W (m.set i c) (upd H a o) ∧ Step W H W (upd H a o) := by
  have ha : a ∈ W.th := List.mem_of_getElem? hi
  refine ⟨⟨sub_upd x.sub (x.nf a ha) o, by rw [List.length_set]; exact x.len, fun j b c' e1 e2 => ?_, x.nf, x.nd⟩, ⟨Same.refl _, ⟨[], by simp, by simp⟩, fun b u e n => ?_, fun _ _ _ h _ _ => h⟩⟩
  · by_cases hj : i = j
    · subst hj
      rw [hi] at e1
      cases e1
      have hl : i < m.length := by rw [← x.len]; exact (List.getElem?_eq_some_iff.mp hi).1
      rw [List.getElem?_set_self hl] at e2
      cases e2
      exact hc
    · rw [List.getElem?_set_ne hj] at e2
      have hb : b ≠ a := fun z => by
        subst z
        exact hj ((List.getElem?_inj (List.getElem?_eq_some_iff.mp hi).1 x.nd).mp (hi.trans e1.symm))
      exact (x.cell j b c' e1 e2).mono (Le.refl W) fun u e => by rw [upd_ne hb]; exact e
  · have hb : b ≠ a := fun z => n (by rw [z]; exact ha)
    rw [upd_ne hb]
    exact e
theorem St0.share (x : St0 K mg W m H) {p : Addr} (hp : H p = none) {o : HO} {c : Cell} (hc : CellAt K mg W (upd H p o) p c) : St0 K mg ⟨W.Hf, W.th ++ [p]⟩ (m ++ [c]) (upd H p o) ∧ Step W H ⟨W.Hf, W.th ++ [p]⟩ (upd H p o) := by
  have hn := Same.none x.sub hp
  have nt : p ∉ W.th := fun z => by
    obtain ⟨o', e⟩ := x.live z
    rw [hp] at e
    cases e
  have l : Le W ⟨W.Hf, W.th ++ [p]⟩ := ⟨Same.refl _, [p], rfl⟩
  refine ⟨⟨sub_upd x.sub hn o, by simp [x.len], fun j b c' e1 e2 => ?_, fun a ha => ?_, ?_⟩, ⟨Same.refl _, ⟨[p], rfl, fun a ha => by rw [List.mem_singleton.mp ha]; exact hp⟩, fun b u e n => by rw [upd_ne (ne_of_none e hp)]; exact e, fun _ _ _ h _ _ => h⟩⟩
  · have e1 : (W.th ++ [p])[j]? = some b := e1
    by_cases hj : j < W.th.length
    · rw [List.getElem?_append_left hj] at e1
      rw [List.getElem?_append_left (by rw [← x.len]; exact hj)] at e2
      have hb : b ≠ p := fun z => nt (z ▸ List.mem_of_getElem? e1)
      exact (x.cell j b c' e1 e2).mono l fun u e => by rw [upd_ne hb]; exact e
    · have ej : j = W.th.length := by
        have := (List.getElem?_eq_some_iff.mp e1).1
        simp at this
        omega
      subst ej
      rw [List.getElem?_append_right (Nat.le_refl _)] at e1
      rw [x.len, List.getElem?_append_right (Nat.le_refl _)] at e2
      simp at e1 e2
      subst e1 e2
      exact hc.mono l fun u e => e
  · rcases List.mem_append.mp (show a ∈ W.th ++ [p] from ha) with z | z
    · exact x.nf a z
    · rw [List.mem_singleton.mp z]; exact hn
  · show (W.th ++ [p]).Nodup
    rw [List.nodup_append]
    exact ⟨x.nd, by simp, fun a ha b hb e => nt (by rw [← List.mem_singleton.mp hb, ← e]; exact ha)⟩
mutual
theorem rep_lo {th th' : List Addr} {Hf : Hp} {n : Nat} (hn : ∀ i : Nat, i < n → th'[i]? = th[i]?) : ∀ (d : D) (v : V), D.lo n d = true → Rep K mg ⟨Hf, th⟩ d v → Rep K mg ⟨Hf, th'⟩ d v
  | .non, _, _, h => h
  | .bl _, _, _, h => h
  | .int _, _, _, h => h
  | .str _, _, _, h => h
  | .tup ds, _, l, ⟨a, vs, e, h, r⟩ => ⟨a, vs, e, h, reps_lo hn ds vs l r⟩
  | .lst ds, _, l, ⟨a, vs, e, h, r⟩ => ⟨a, vs, e, h, reps_lo hn ds vs l r⟩
  | .seq ds, _, l, ⟨a, vs, e, h, r⟩ => ⟨a, vs, e, h, reps_lo hn ds vs l r⟩
  | .dk _ ds, _, l, ⟨a, vs, e, h, k, r⟩ => ⟨a, vs, e, h, k, reps_lo hn ds vs l r⟩
  | .dt _ ds, _, l, ⟨a, vs, e, h, k, r⟩ => ⟨a, vs, e, h, k, reps_lo hn ds vs l r⟩
  | .ins _ _ ds, _, l, ⟨a, dx, vs, e, h, k, r⟩ => ⟨a, dx, vs, e, h, k, reps_lo hn ds vs l r⟩
  | .ref i, _, l, ⟨a, e, h⟩ => ⟨a, e, (hn i (of_decide_eq_true l)).trans h⟩
  | .gl _, _, _, h => h
  | .cl _, _, _, h => h
theorem reps_lo {th th' : List Addr} {Hf : Hp} {n : Nat} (hn : ∀ i : Nat, i < n → th'[i]? = th[i]?) : ∀ (ds : List D) (vs : List V), D.los n ds = true → Reps K mg ⟨Hf, th⟩ ds vs → Reps K mg ⟨Hf, th'⟩ ds vs
  | [], _, _, h => h
  | d :: ds, _, l, ⟨v, r, e, h, t⟩ => by
    obtain ⟨l1, l2⟩ := Bool.and_eq_true_iff.mp (show (D.lo n d && D.los n ds) = true from l)
    exact ⟨v, r, e, rep_lo hn d v l1 h, reps_lo hn ds r l2 t⟩
end
mutual
theorem rep_los {th : List Addr} {Hf : Hp} {n : Nat} (hn : th.length ≤ n) : ∀ (d : D) (v : V), Rep K mg ⟨Hf, th⟩ d v → D.lo n d = true
  | .non, _, _ => rfl
  | .bl _, _, _ => rfl
  | .int _, _, _ => rfl
  | .str _, _, _ => rfl
  | .tup ds, _, ⟨a, vs, e, h, r⟩ => reps_los hn ds vs r
  | .lst ds, _, ⟨a, vs, e, h, r⟩ => reps_los hn ds vs r
  | .seq ds, _, ⟨a, vs, e, h, r⟩ => reps_los hn ds vs r
  | .dk _ ds, _, ⟨a, vs, e, h, k, r⟩ => reps_los hn ds vs r
  | .dt _ ds, _, ⟨a, vs, e, h, k, r⟩ => reps_los hn ds vs r
  | .ins _ _ ds, _, ⟨a, dx, vs, e, h, k, r⟩ => reps_los hn ds vs r
  | .ref i, _, ⟨a, e, h⟩ => by
    have := (List.getElem?_eq_some_iff.mp (show th[i]? = some a from h)).1
    exact decide_eq_true (by omega)
  | .gl _, _, _ => rfl
  | .cl _, _, _ => rfl
theorem reps_los {th : List Addr} {Hf : Hp} {n : Nat} (hn : th.length ≤ n) : ∀ (ds : List D) (vs : List V), Reps K mg ⟨Hf, th⟩ ds vs → D.los n ds = true
  | [], _, _ => rfl
  | d :: ds, _, ⟨v, r, e, h, t⟩ => by
    show (D.lo n d && D.los n ds) = true
    rw [rep_los hn d v h, reps_los hn ds r t]
    rfl
end
theorem cell_lo {th th' : List Addr} {Hf : Hp} {n : Nat} {a : Addr} {c : Cell} (hn : ∀ i : Nat, i < n → th'[i]? = th[i]?) (l : D.lo n c.fz = true) (h : CellAt K mg ⟨Hf, th⟩ H a c) : CellAt K mg ⟨Hf, th'⟩ H a c := by
  cases c with
  | lst ds => obtain ⟨vs, e, r⟩ := h; exact ⟨vs, e, reps_lo hn ds vs l r⟩
  | dk ks ds => obtain ⟨vs, e, k, r⟩ := h; exact ⟨vs, e, k, reps_lo hn ds vs l r⟩
  | dt ks ds => obtain ⟨vs, e, k, r⟩ := h; exact ⟨vs, e, k, reps_lo hn ds vs l r⟩
  | ins c ns ds => obtain ⟨dx, vs, e, k, r⟩ := h; exact ⟨dx, vs, e, k, reps_lo hn ds vs l r⟩
theorem cell_los {th : List Addr} {Hf : Hp} {n : Nat} {a : Addr} {c : Cell} (hn : th.length ≤ n) (h : CellAt K mg ⟨Hf, th⟩ H a c) : D.lo n c.fz = true := by
  cases c with
  | lst ds => obtain ⟨vs, e, r⟩ := h; exact reps_los hn ds vs r
  | dk ks ds => obtain ⟨vs, e, k, r⟩ := h; exact reps_los hn ds vs r
  | dt ks ds => obtain ⟨vs, e, k, r⟩ := h; exact reps_los hn ds vs r
  | ins c ns ds => obtain ⟨dx, vs, e, k, r⟩ := h; exact reps_los hn ds vs r
/-- the last shared cell becomes one's own -/
theorem St0.pop (x : St0 K mg W m H) {Hf : Hp} {th : List Addr} {p : Addr} {c : Cell} {H' : Hp} (x2 : St0 K mg ⟨Hf, th ++ [p]⟩ (m ++ [c]) H') (hl : D.lo m.length c.fz = true) (ht : W.th = th) : St0 K mg ⟨Hf, th⟩ m H' ∧ Own K mg ⟨Hf, th⟩ H' p c := by
  have hlen : th.length = m.length := by rw [← ht]; exact x.len
  have hn : ∀ i : Nat, i < m.length → th[i]? = (th ++ [p])[i]? := fun i hi => by rw [List.getElem?_append_left (by rw [hlen]; exact hi)]
  have nd : (th ++ [p]).Nodup := x2.nd
  have np : p ∉ th := fun z => by
    rw [List.nodup_append] at nd
    exact nd.2.2 p z p (by simp) rfl
  have hp : (th ++ [p])[m.length]? = some p := by rw [← hlen]; simp
  have hc : (m ++ [c])[m.length]? = some c := by simp
  refine ⟨⟨x2.sub, hlen, fun i a c' e1 e2 => ?_, fun a ha => x2.nf a (List.mem_append_left _ ha), (List.nodup_append.mp nd).1⟩, ⟨cell_lo hn hl (x2.cell _ p c hp hc), x2.nf p (by simp), np⟩⟩
  have hi : i < m.length := (List.getElem?_eq_some_iff.mp e2).1
  have e1' : (th ++ [p])[i]? = some a := by rw [← hn i hi]; exact e1
  have e2' : (m ++ [c])[i]? = some c' := by rw [List.getElem?_append_left hi]; exact e2
  refine cell_lo hn ?_ (x2.cell i a c' e1' e2')
  exact cell_los (th := W.th) (Hf := W.Hf) (by rw [x.len]; exact Nat.le_refl _) (x.cell i a c' (by rw [ht]; exact e1) e2)
end
section
variable {X : Cx} {Wx : WX} {G : Prog} {n : Nat}
theorem de_gint (x : Xok G n X Wx) {z : Str} {i : Int} {pos : Pos} (h : (z, i) ∈ G.gints) (hg : Gl X z) (hd : (z == ("__debug__" : Str)) = false) : PE X (.Name z pos) (tS X Wx fun _ m => .ok (.val (.int i)) m) := by
  obtain ⟨u, e, r⟩ := x.fx.gint _ h
  exact de_c (pe_glob hg e r hd) fun _ => rfl
/-- o.m() of an instance -/
theorem de_meth0 (x : Xok G n X Wx) {o : Expr} {mn : Str} {cs : List (Str × Nat)} {apos pos : Pos} {fo : Sl → Mu → R SV} (hcs : ∀ c k, cs.lookup c = some k → ((c, mn), k) ∈ G.mets) (ho : PE X o (tS X Wx fo)) (h1 : noSup o = true) (hl : (apos.endLine == pos.line) = true) :
    PE X (.Call (.Attribute o mn apos) [] [] pos) (tS X Wx fun s m => (fo s m).bind fun x m1 => (match seeD m1 x.fz with
    | .ins c ns _ => (match cs.lookup c with
      | some k => guardR (!ns.contains mn) ((R.ok [] m1).bind fun ds m2 => callN G n k (x.fz :: ds) m2)
      | none => .bad)
    | _ => .bad)) := by
  refine ⟨fun pins s σ H Q I ⟨W, sl, m, hs, out⟩ => ?_⟩
  refine methcall_of ho I (runz rb_sv hs out fun xv m1 W1 v H1 h1 p1 av o1 => ?_) (meth_tree h1 rfl hl (by simp))
  split at o1
  · rename_i c ns fs e1
    split at o1
    · rename_i k e2
      obtain ⟨g, o1⟩ := guard_t o1
      have hv := see_rep (m := m1) h1.toSt0 av
      rw [e1] at hv
      obtain ⟨a, dx, vs, rfl, hh, hl, rr⟩ := hv.ins h1.sub
      obtain ⟨f, hf, cl, me⟩ := x.fx.mets _ (hcs c k e2)
      refine ⟨a, _, dx, _, _, rfl, hh, cl, me, ?_, fun s1 I1 => ?_⟩
      · have : mn ∉ ns := by simpa using g
        exact lookup_zip_none this
      · exact PySem.W.callWith_K0 (first := [.ref a]) I1.kIn me.kp (run_fnk x (vs := [V.ref a]) (us := [Value.ref a]) hf I1 (.cons rfl .nil) h1.toSt0 (Reps.one av) o1)
    · exact o1.elim
  · exact o1.elim
theorem getF_rep {K : PySem.W.Frag} {mg : Str → Option Value} {W : Wd} {f : Str} : ∀ {ns : List Str} {ds : List D} {vs : List V} {d : D}, Reps K mg W ds vs → getFD f ns ds = some d → ∃ v, (ns.zip vs).lookup f = some v ∧ Rep K mg W d v
  | [], _, _, _, _, e => by cases e
  | _ :: _, [], _, _, _, e => by cases e
  | g :: ns, d' :: ds, _, d, ⟨v, r, e0, h, t⟩, e => by
    subst e0
    have e : (if f = g then some d' else getFD f ns ds) = some d := e
    rw [List.zip_cons_cons, List.lookup_cons]
    by_cases hg : f = g
    · rw [if_pos hg] at e
      cases e
      rw [beq_iff_eq.mpr hg]
      exact ⟨v, rfl, h⟩
    · rw [if_neg hg] at e
      rw [beq_eq_false_iff_ne.mpr hg]
      exact getF_rep t e
theorem lookup_str {α : Type} {a : Str} {b : α} {l : List (Str × α)} (h : l.lookup a = some b) : (a, b) ∈ l := mem_of_lookup h
theorem de_attr (x : Xok G n X Wx) {o : Expr} {f : Str} {pos : Pos} {fo : Sl → Mu → R D} (ho : PE X o (tP X Wx fo)) (h1 : noSup o = true) :
    PE X (.Attribute o f pos) (tS X Wx fun s m => (fo s m).bind fun x m1 => (match seeD m1 x with
    | .ins c ns ds => (match G.flds.lookup c, getFD f ns ds with
      | some fl, some d => guardR (decide (f ∈ fl)) (.ok (.val d) m1)
      | _, _ => .bad)
    | _ => .bad)) := by
  refine pe_imp (pe_fld ho (base_eq h1)) fun σ H Q ⟨W, s, m, hs, out⟩ => ?_
  refine run rb_sv hs out fun xv m1 W1 v H1 _ h1 p1 av o1 => ?_
  have hv := see (m := m1) h1.toSt0 av
  split at o1
  · rename_i c ns ds e1
    rw [e1] at hv
    split at o1
    · rename_i fl d e2 e3
      obtain ⟨g, o1⟩ := guard_t o1
      obtain ⟨a, dx, vs, rfl, hh, hl, rr⟩ := hv.ins h1.sub
      obtain ⟨w, e4, rd⟩ := getF_rep rr e3
      obtain ⟨cl, na⟩ := x.fx.fld _ (lookup_str e2)
      exact ⟨a, _, dx, _, w, rfl, hh, cl, na f (of_decide_eq_true g), e4, o1.fin h1.toSt0 rd⟩
    · exact o1.elim
  · exact o1.elim
theorem run_makeA {CX : CXT} {k : Nat} {f C : Addr} {fd : FuncData} {ps : List Str} {sp : Sp} {dvs : List V} {ds : List Value} {E : XK} {pins : List (Addr × Obj)} {σ : L2.St} {H : Hp} {s : Shared} {Q : VK} {us : List Value} {vs : List V} (M : Mk X.K C f) (F : FnOk X.prog X.w X.K X.mg X.base CX k f fd ps sp) (hr : Room (k + 1) X.A) (hb : Binds X.K fd ps ds) (hd : Vals dvs ds)
    (hx : PassesAt CX X σ E) (I : L2.Inv X pins σ H s) (r : Vals vs us)
    (h : ∀ x dx, H x = none → H dx = none → dx ≠ x → sp (.ref x :: (vs ++ dvs)) (upd (upd H dx (.own x)) x (.ins C dx [])) (fun v H2 => v = .non ∧ Q (.ref x) H2) E) :
    wpAny (model X.prog X.w) X.A (call (.ref C) us) (EP X pins σ Q) X.xe s := by
  have hq := h (s.heap.objs.size + 1) s.heap.objs.size (I.hok.fresh (Nat.le_succ _)) (I.hok.fresh (Nat.le_refl _)) (Nat.ne_of_lt (Nat.lt_succ_self _))
  have I2 := Inv.made (C := C) I
  have r2 : Vals (V.ref (s.heap.objs.size + 1) :: (vs ++ dvs)) (Value.ref (s.heap.objs.size + 1) :: (us ++ ds)) := .cons rfl (r.append hd)
  have hl : (Value.ref (s.heap.objs.size + 1) :: us ++ ds).length = ps.length := by
    have e := r2.length
    rw [F.len _ _ _ _ hq] at e
    exact e.symm
  refine wpAny_call (make_map (f := f) I.kIn M.makes M.init (beq_iff_eq.mp M.fn) (codeAny_mono (F.run _ X.stack _ _ ⟨Value.ref (s.heap.objs.size + 1) :: us, []⟩ (Value.ref (s.heap.objs.size + 1) :: (us ++ ds)) _ _ E (hr.make C us [])
    (I2.env0.make C us []) (hb _ (Value.ref (s.heap.objs.size + 1) :: us) I2.kIn hl) r2 hq) fun r s' hq' => ?_))
  cases r with
  | error e => exact hx pins _ _ e s' I2 hq'
  | ok fl =>
    cases fl with
    | ret u =>
      obtain ⟨v, H', I3, rv, ev, q3⟩ := I2.after hq'
      subst ev
      exact ⟨rv, ⟨V.ref (s.heap.objs.size + 1), H', I3, rfl, q3⟩⟩
    | next => exact False.elim hq'
    | brk => exact False.elim hq'
    | cont => exact False.elim hq'
/-- a class is called -/
theorem new_run (x : Xok G n X Wx) {pins : List (Addr × Obj)} {σ : L2.St} {W1 : Wd} {m1 : Mu} {H1 : Hp} {s1 : Shared} {Q : VK} {c : Str} {k : Nat} {ds : List D} {vs : List V} {us : List Value} (hc : (c, k) ∈ G.news) (I1 : L2.Inv X pins σ H1 s1) (r : Vals vs us) (st : St0 X.K X.mg W1 m1 H1) (rd : Reps X.K X.mg W1 ds vs)
    (o1 : OutG X.K X.mg (SvAt X.K X.mg) Wx W1 H1 σ ((callN G n k (.ref m1.length :: ds) (m1 ++ [.ins c [] []])).bind fun r m2 => newR m1 r m2) Q) : wpAny (model X.prog X.w) X.A (call (.ref (He.ga X.K c)) us) (EP X pins σ Q) X.xe s1 := by
  obtain ⟨f, hf, M, hm⟩ := x.fx.news _ hc
  obtain ⟨fd, F, B⟩ := (x.fns k f hf).ok
  have hnb : callN G n k (.ref m1.length :: ds) (m1 ++ [.ins c [] []]) ≠ .bad := fun e => by
    rw [e] at o1
    exact o1
  have hl := callN_ok hf hnb
  obtain ⟨j1, j2⟩ := fill_len (j := 0) hl
  obtain ⟨dvs, dz, vd, bd, rdd⟩ := B _ j1 j2
  have hq : ∀ (p dx : Addr), H1 p = none → H1 dx = none → dx ≠ p → spF G X.K X.mg n k (.ref p :: (vs ++ dvs)) (upd (upd H1 dx (.own p)) p (.ins (He.ga X.K c) dx [])) (fun v H2 => v = .non ∧ Q (.ref p) H2) (WE Wx σ) := fun p dx hp hd ne => by
    obtain ⟨x1, p1, _⟩ := st.made hd (.own p)
    have hp1 : upd H1 dx (.own p) p = none := by rw [upd_ne (Ne.symm ne)]; exact hp
    obtain ⟨x2, p2⟩ := x1.share hp1 (o := .ins (He.ga X.K c) dx []) (c := .ins c [] []) ⟨dx, [], by rw [upd_same]; rfl, rfl, rfl⟩
    have p12 := p1.trans x1 p2
    have rp : Rep X.K X.mg ⟨W1.Hf, W1.th ++ [p]⟩ (.ref m1.length) (.ref p) := ⟨p, rfl, by rw [← st.len]; simp⟩
    refine sp_of (σ := σ) (vs := .ref p :: vs) hf hl x2 (Reps.cons rp (Reps.mono p12.le _ _ rd)) (rdd _) ?_
    cases er : callN G n k (.ref m1.length :: ds) (m1 ++ [.ins c [] []]) with
    | bad => exact absurd er hnb
    | ex z m2 =>
      rw [er] at o1
      exact fun W' d H' x3 p3 ea => o1 W' d H' x3 (p12.trans x2 p3) ea
    | ok sv m2 =>
      rw [er] at o1
      intro W3 v H3 x3 p3 av
      have o1 : OutG X.K X.mg (SvAt X.K X.mg) Wx W1 H1 σ (newR m1 sv m2) Q := o1
      clear er hl
      unfold newR at o1
      split at o1
      · cases av
        split at o1
        · rename_i c' ec
          split at o1
          · rename_i hcc
            obtain ⟨em, hlo⟩ := hcc
            refine ⟨rfl, ?_⟩
            rw [em] at x3
            clear em
            obtain ⟨more, et, hmore⟩ := p3.th
            have et : W3.th = (W1.th ++ [p]) ++ more := et
            have hmo : more = [] := by
              have hl3 := x3.len
              rw [et] at hl3
              simp [st.len] at hl3
              exact hl3
            subst hmo
            rw [List.append_nil] at et
            have x3' : St0 X.K X.mg ⟨W3.Hf, W1.th ++ [p]⟩ (m1 ++ [c']) H3 := by rw [← et]; exact x3
            obtain ⟨x4, ow⟩ := st.pop x3' hlo rfl
            have pt : p ∉ W1.th := fun z => by
              obtain ⟨o', e'⟩ := st.live z
              rw [hp] at e'
              cases e'
            have p4 : Step W1 H1 ⟨W3.Hf, W1.th⟩ H3 := by
              refine ⟨p12.sub.trans p3.sub, ⟨[], by simp, by simp⟩, fun b u e nb => ?_, fun b u e hz nb t => ?_⟩
              · have hbp : b ≠ p := ne_of_none e hp
                exact p3.keep b u (p12.keep b u e nb) (by simp [nb, hbp])
              · have hbp : b ≠ p := ne_of_none e hp
                exact p3.nofz b u (p12.keep b u e nb) (p12.nofz b u e hz nb t) (by simp [nb, hbp]) t
            exact o1.fin2 x4 p4 ⟨p, rfl, ow, hp⟩
          · exact o1.elim
        · exact o1.elim
      · exact o1.elim
  exact run_makeA M F (x.room.mono (by omega)) bd vd (passAt x.tk σ) I1 r hq
/-- C(..): a new instance -/
theorem de_new (x : Xok G n X Wx) {c : Str} {k : Nat} {f : Fn} {e : Expr} {es : List Expr} {p pos : Pos} {fa : Sl → Mu → R (List D)} (hc : (c, k) ∈ G.news) (hdb : (c == ("__debug__" : Str)) = false) (hg : Gl X c) (n1 : noStar e = true) (n2 : es.all noStar = true) (ha : PA X (e :: es) (tL X Wx fa)) :
    PE X (.Call (.Name c p) (e :: es) [] pos) (tS X Wx fun s m => (fa s m).bind fun ds m1 => (callN G n k (.ref m1.length :: ds) (m1 ++ [.ins c [] []])).bind fun r m2 => newR m1 r m2) := by
  refine ⟨fun pins s σ H Q I h => ?_⟩
  obtain ⟨f, hf, M, hm⟩ := x.fx.news _ hc
  have fin : tL X Wx fa σ H fun vs H1 => ∃ (W1 : Wd) (m1 : Mu) (ds : List D), St0 X.K X.mg W1 m1 H1 ∧ Reps X.K X.mg W1 ds vs ∧ OutG X.K X.mg (SvAt X.K X.mg) Wx W1 H1 σ ((callN G n k (.ref m1.length :: ds) (m1 ++ [.ins c [] []])).bind fun r m2 => newR m1 r m2) Q := by
    obtain ⟨W, sl, m, hs, o⟩ := h
    exact run rb_sv hs o fun ds m1 W1 vs H1 _ h1 p1 r o1 => ⟨W1, m1, ds, h1.toSt0, r, o1⟩
  refine wpAny_Call_Name_kw (ld_glob I hg hm ?_ hdb)
  refine PySem.W.callWith_K (h₀ := X.base) I.ok.mod.kin M.kp (thn (ha.run pos pins s σ H _ I fin) fun us s1 ⟨vs, H1, I1, r, W1, m1, ds, st, rd, o1⟩ => ⟨I1.kIn, ?_⟩) (star_cons n1) (star_any n2)
  exact new_run x hc I1 r st rd o1
end
end Dp
end

section
set_option Elab.async false
set_option linter.all false
set_option maxRecDepth 100000
set_option maxHeartbeats 1000000
/-! The deep layer, part 14: len and in of instances, pop of a shared list, get of a dict. -/
namespace Dp
open PySem PySem.Spec PyProof.Rows L2
section
variable {X : Cx} {Wx : WX} {G : Prog} {n : Nat}
theorem false_at (x : Xok G n X Wx) (σ : L2.St) : PassesAt (L2.CX X.prog X.w) X σ (fun _ _ _ => False) := fun pins H s e s' I c => passes_call x.tk (fun _ _ _ _ h => h.elim) pins σ H s e s' I c
theorem outN0 {K : PySem.W.Frag} {mg : Str → Option Value} {α β γ δ : Type} {A : Wd → Hp → Hp → α → β → Prop} {A2 : Wd → Hp → Hp → γ → δ → Prop} {Wx : WX} {W : Wd} {H : Hp} {σ σ' : L2.St} {r : R γ} {f : γ → Mu → R α} {Q : β → Hp → Prop} {Q1 : δ → Hp → Prop} (h : OutG K mg A Wx W H σ (r.bindN f) Q)
    (k : ∀ (a : γ) (m : Mu) (W' : Wd) (b : δ) (H' : Hp), r = .ok a m → OutG K mg A Wx W H σ (f a m) Q → St0 K mg W' m H' → Step W H W' H' → A2 W' H H' a b → Q1 b H') : OutG K mg A2 (WE0 fun _ _ _ => False) W H σ' r Q1 := by
  cases r with
  | ok a m => exact fun W' b H' x p av => k a m W' b H' rfl h x p av
  | ex x m => exact h.elim
  | bad => exact h.elim
/-- the k-th def run within the context A', no exception leaving -/
theorem run_fn0 (x : Xok G n X Wx) {A' : Around} (hr : Room (2 * n) A') {pins : List (Addr × Obj)} {σ : L2.St} (e0 : ∀ H s, Env0 X.prog X.w X.K X.mg X.base X.A X.stack s H → Env0 X.prog X.w X.K X.mg X.base A' X.stack s H) {W : Wd} {m : Mu} {H : Hp} {s : Shared} {Q : VK} {k : Nat} {f : Fn} {ds : List D} {vs : List V} {us : List Value} (hf : G.fns[k]? = some f) (I : L2.Inv X pins σ H s) (r : Vals vs us) (st : St0 X.K X.mg W m H) (rd : Reps X.K X.mg W ds vs)
    (o : OutG X.K X.mg (SvAt X.K X.mg) (WE0 fun _ _ _ => False) W H [] (callN G n k ds m) Q) : wpAny (model X.prog X.w) A' (call (.ref (fAw X.K f.at_)) us) (EP X pins σ Q) X.xe s := by
  have hl := callN_ok hf (out_nb o)
  obtain ⟨fd, F, B⟩ := (x.fns k f hf).ok
  obtain ⟨h1, h2⟩ := fill_len (j := 0) hl
  obtain ⟨dvs, dz, vd, bd, rdd⟩ := B ds.length h1 h2
  exact run_at F hr (e0 _ _ I.env0) bd vd (false_at x σ) I r ⟨f, W, fill f ds, m, hf, hl, st, rd.append (rdd W), by rw [callN_fill hf hl]; exact o⟩
def rLenO (G : Prog) (n : Nat) (X : Cx) : List V → Hp → VK → Prop := fun xs H Q => ∃ (a : Addr) (C dx : Addr) (fs : List (Str × V)) (k : Nat) (f : Fn) (W : Wd) (m : Mu) (d : D), xs = [.ref a] ∧ H a = some (.ins C dx fs) ∧ G.fns[k]? = some f ∧ Meth X.K C "__len__" (fAw X.K f.at_) ∧ St0 X.K X.mg W m H ∧ Rep X.K X.mg W d (.ref a) ∧
  OutG X.K X.mg (SvAt X.K X.mg) (WE0 fun _ _ _ => False) W H [] (callN G n k [d] m) (fun v H' => ∃ i : Int, v = .int i ∧ 0 ≤ i ∧ i < 2 ^ 63 ∧ Q (.int i) H')
theorem call_lenO (x : Xok G n X Wx) : CallR X (.builtin "len") (rLenO G n X) := by
  intro pins s σ H xs us Q I r h
  obtain ⟨a, C, dx, fs, k, f, W, m, d, rfl, ha, hf, me, st, rd, o⟩ := h
  obtain ⟨u, rfl, rx⟩ := vals1 r
  obtain rfl : u = Value.ref a := rx
  obtain ⟨mA, O, _⟩ := ins_get I.hok ha
  obtain ⟨od, J, _⟩ := O.look
  obtain ⟨mf, Fr0⟩ := I.fr
  refine PySem.W.len_K Fr0 I.ok.mod.kin J me.at_ me.fn ?_
  refine wpAny_mono (run_fn0 x (A' := X.A.in1) x.room.in1 (fun H s e => e.in1) (vs := [V.ref a]) (us := [Value.ref a]) hf I (.cons rfl .nil) st (Reps.one rd) o) (fun v s' hv => ?_) fun _ _ z => z
  obtain ⟨z, H', I', rv, i, rfl, h0, h1, q⟩ := hv
  obtain ⟨t, rfl⟩ := rv
  exact ⟨⟨h0, h1⟩, ⟨.int i, H', I'.tok _, ⟨_, rfl⟩, q⟩⟩
theorem de_leno (x : Xok G n X Wx) {e : Expr} {ks : List (Str × Nat)} {p pos : Pos} {fa : Sl → Mu → R SV} (hk : ∀ c k, ks.lookup c = some k → ((c, Str.ofString "__len__"), k) ∈ G.mets) (hg : Gl X "len") (ha : PE X e (tS X Wx fa)) (hs : noStar e = true) :
    PE X (.Call (.Name "len" p) [e] [] pos) (tS X Wx fun s m => (fa s m).bind fun x m1 => (match seeD m1 x.fz with
    | .ins c _ _ => (match ks.lookup c with
      | some k => (callN G n k [x.fz] m1).bindN fun r m2 => (match r.fz with
        | .int n => guardR (r63 n) (.ok (.val (.int n)) m2)
        | _ => .bad)
      | none => .bad)
    | _ => .bad)) := by
  refine pe_imp (pe_callB (call_lenO x) hg (x.fx.blt "len" (by decide)) (by kernel_rfl) (pa_cons ha pa_nil (star_cons hs)) (by decide) (by decide) (star_cons hs) (star_any rfl)) fun σ H Q ⟨W, s, m, hs, o⟩ => ?_
  refine runz rb_sv hs o fun xv m1 W1 v H1 h1 p1 av o1 => ?_
  split at o1
  · rename_i c ns ds e1
    split at o1
    · rename_i k e2
      have hv := see_rep (m := m1) h1.toSt0 av
      rw [e1] at hv
      obtain ⟨a, dx, vs, rfl, hh, hl, rr⟩ := hv.ins h1.sub
      obtain ⟨f, hf, cl, me⟩ := x.fx.mets _ (hk c k e2)
      refine ⟨a, _, dx, _, k, f, W1, m1, xv.fz, rfl, hh, hf, me, h1.toSt0, av, outN0 o1 fun r m2 W2 b H2 er o2 x2 p2 bv => ?_⟩
      split at o2
      · rename_i i ei
        have hb : b = .int i := by
          cases r with
          | val d =>
            have : d = .int i := ei
            subst this
            exact bv
          | own c => cases c <;> cases ei
        generalize hgd : r63 i = g at o2
        cases g with
        | false => exact o2.elim
        | true =>
          have hgd := r63_le hgd
          have o3 : OutG X.K X.mg (SvAt X.K X.mg) Wx W1 H1 σ (.ok (.val (.int i)) m2) Q := o2
          exact ⟨i, hb, hgd.1, hgd.2, o3.fin2 x2 p2 rfl⟩
      · exact o2.elim
    · exact o1.elim
  · exact o1.elim
def rInO (G : Prog) (n : Nat) (X : Cx) (neg : Bool) : R2 := fun y v H Q => ∃ (a : Addr) (C dx : Addr) (fs : List (Str × V)) (k : Nat) (f : Fn) (W : Wd) (m : Mu) (d e : D), v = .ref a ∧ H a = some (.ins C dx fs) ∧ G.fns[k]? = some f ∧ Meth X.K C "__contains__" (fAw X.K f.at_) ∧ St0 X.K X.mg W m H ∧ Rep X.K X.mg W d (.ref a) ∧ Rep X.K X.mg W e y ∧
  OutG X.K X.mg (SvAt X.K X.mg) (WE0 fun _ _ _ => False) W H [] (callN G n k [d, e] m) (fun v H' => ∃ b : Bool, v = .bl b ∧ Q (.bl (if neg = true then !b else b)) H')
theorem or_inO (x : Xok G n X Wx) : OpR X (compareOp .In) (rInO G n X false) := by
  intro pins s σ H y v uy uv Q I ry rv h
  obtain ⟨a, C, dx, fs, k, f, W, m, d, e, rfl, ha, hf, me, st, rd, re, o⟩ := h
  obtain rfl : uv = Value.ref a := rv
  obtain ⟨mA, O, _⟩ := ins_get I.hok ha
  obtain ⟨od, J, _⟩ := O.look
  obtain ⟨mf, Fr0⟩ := I.fr
  refine PySem.W.in_K Fr0 I.ok.mod.kin J me.at_ me.fn ?_
  refine wpAny_mono (run_fn0 x (A' := X.A) (x.room.mono (by omega)) (fun H s e => e) (vs := [V.ref a, y]) (us := [Value.ref a, uy]) hf I (.cons rfl (.cons ry .nil)) st (Reps.cons rd (Reps.one re)) o) (fun v s' hv => ?_) fun _ _ z => z
  obtain ⟨z, H', I', rv, i, rfl, q⟩ := hv
  cases rv
  exact wpAny_truthy_bool ⟨.bl i, H', I', rfl, q⟩
theorem or_notInO (x : Xok G n X Wx) : OpR X (compareOp .NotIn) (rInO G n X true) := by
  intro pins s σ H y v uy uv Q I ry rv h
  obtain ⟨a, C, dx, fs, k, f, W, m, d, e, rfl, ha, hf, me, st, rd, re, o⟩ := h
  obtain rfl : uv = Value.ref a := rv
  obtain ⟨mA, O, _⟩ := ins_get I.hok ha
  obtain ⟨od, J, _⟩ := O.look
  obtain ⟨mf, Fr0⟩ := I.fr
  refine PySem.W.notIn_K Fr0 I.ok.mod.kin J me.at_ me.fn ?_
  refine wpAny_mono (run_fn0 x (A' := X.A) (x.room.mono (by omega)) (fun H s e => e) (vs := [V.ref a, y]) (us := [Value.ref a, uy]) hf I (.cons rfl (.cons ry .nil)) st (Reps.cons rd (Reps.one re)) o) (fun v s' hv => ?_) fun _ _ z => z
  obtain ⟨z, H', I', rv, i, rfl, q⟩ := hv
  cases rv
  exact wpAny_truthy_bool ⟨.bl (!i), H', I', rfl, q⟩
def inmOp (neg : Bool) : CmpOp := if neg = true then .NotIn else .In
theorem de_inm (x : Xok G n X Wx) {neg : Bool} {a o : Expr} {ks : List (Str × Nat)} {pos : Pos} {fa fo : Sl → Mu → R SV} (hk : ∀ c k, ks.lookup c = some k → ((c, Str.ofString "__contains__"), k) ∈ G.mets) (ha : PE X a (tS X Wx fa)) (ho : PE X o (tS X Wx fo)) (hm : behindInMarks (inmOp neg) o = false) :
    PE X (.Compare a [inmOp neg] [o] pos) (tS X Wx fun s m => (fa s m).bind fun x m1 => (fo s m1).bind fun y m2 => (match seeD m2 y.fz with
    | .ins c _ _ => (match ks.lookup c with
      | some k => (callN G n k [y.fz, x.fz] m2).bindN fun r m3 => (match r.fz with
        | .bl b => .ok (.val (.bl (if neg = true then !b else b))) m3
        | _ => .bad)
      | none => .bad)
    | _ => .bad)) := by
  have hop : OpR X (compareOp (inmOp neg)) (rInO G n X neg) := by
    cases neg with
    | true => exact or_notInO x
    | false => exact or_inO x
  refine pe_imp (pe_cmpR hop ha ho hm) fun σ H Q ⟨W, s, m, hs, out⟩ => ?_
  refine runz rb_sv hs out fun xv m1 W1 v H1 h1 p1 av o1 => ?_
  refine runz rb_sv h1 o1 fun yv m2 W2 u H2 h2 p2 bv o2 => ?_
  split at o2
  · rename_i c ns ds e1
    split at o2
    · rename_i k e2
      have hv := see_rep (m := m2) h2.toSt0 bv
      rw [e1] at hv
      obtain ⟨a, dx, vs, rfl, hh, hl, rr⟩ := hv.ins h2.sub
      obtain ⟨f, hf, cl, me⟩ := x.fx.mets _ (hk c k e2)
      refine ⟨a, _, dx, _, k, f, W2, m2, yv.fz, xv.fz, rfl, hh, hf, me, h2.toSt0, bv, Rep.mono p2.le _ _ av, outN0 o2 fun r m3 W3 b H3 er o3 x3 p3 cv => ?_⟩
      split at o3
      · rename_i i ei
        have hb : b = .bl i := by
          cases r with
          | val d =>
            have : d = .bl i := ei
            subst this
            exact cv
          | own c => cases c <;> cases ei
        exact ⟨i, hb, o3.fin2 x3 p3 rfl⟩
      · exact o3.elim
    · exact o2.elim
  · exact o2.elim
theorem dt_inm (x : Xok G n X Wx) {neg : Bool} {a o : Expr} {ks : List (Str × Nat)} {pos : Pos} {fa fo : Sl → Mu → R SV} (hk : ∀ c k, ks.lookup c = some k → ((c, Str.ofString "__contains__"), k) ∈ G.mets) (ha : PE X a (tS X Wx fa)) (ho : PE X o (tS X Wx fo)) (hm : behindInMarks (inmOp neg) o = false) :
    PT X (.Compare a [inmOp neg] [o] pos) (tT X Wx fun s m => (fa s m).bind fun x m1 => (fo s m1).bind fun y m2 => (match seeD m2 y.fz with
    | .ins c _ _ => (match ks.lookup c with
      | some k => (callN G n k [y.fz, x.fz] m2).bindN fun r m3 => (match r.fz with
        | .bl b => .ok (if neg = true then !b else b) m3
        | _ => .bad)
      | none => .bad)
    | _ => .bad)) := by
  have hop : OpR X (compareOp (inmOp neg)) (rInO G n X neg) := by
    cases neg with
    | true => exact or_notInO x
    | false => exact or_inO x
  refine pt_imp (pt_cmpR hop ha ho hm) fun σ H Q ⟨W, s, m, hs, out⟩ => ?_
  refine runz rb_bl hs out fun xv m1 W1 v H1 h1 p1 av o1 => ?_
  refine runz rb_bl h1 o1 fun yv m2 W2 u H2 h2 p2 bv o2 => ?_
  split at o2
  · rename_i c ns ds e1
    split at o2
    · rename_i k e2
      have hv := see_rep (m := m2) h2.toSt0 bv
      rw [e1] at hv
      obtain ⟨a, dx, vs, rfl, hh, hl, rr⟩ := hv.ins h2.sub
      obtain ⟨f, hf, cl, me⟩ := x.fx.mets _ (hk c k e2)
      refine ⟨a, _, dx, _, k, f, W2, m2, yv.fz, xv.fz, rfl, hh, hf, me, h2.toSt0, bv, Rep.mono p2.le _ _ av, outN0 o2 fun r m3 W3 b H3 er o3 x3 p3 cv => ?_⟩
      split at o3
      · rename_i i ei
        have hb : b = .bl i := by
          cases r with
          | val d =>
            have : d = .bl i := ei
            subst this
            exact cv
          | own c => cases c <;> cases ei
        exact ⟨i, hb, _, rfl, o3.fin2 x3 p3 rfl⟩
      · exact o3.elim
    · exact o2.elim
  · exact o2.elim
theorem reps_last {K : PySem.W.Frag} {mg : Str → Option Value} {W : Wd} {ds : List D} {vs : List V} {d : D} (r : Reps K mg W ds vs) (e : ds.getLast? = some d) : ∃ v, vs[vs.length - 1]? = some v ∧ Rep K mg W d v := by
  rw [List.getLast?_eq_getElem?] at e
  rw [← r.length]
  exact r.get e
/-- pop of a shared list -/
theorem de_mpop {o : Expr} {apos cpos : Pos} {fo : Sl → Mu → R SV} (ho : PE X o (tS X Wx fo)) (h1 : noSup o = true) (hl : (apos.endLine == cpos.line) = true) :
    PE X (.Call (.Attribute o "pop" apos) [] [] cpos) (tS X Wx fun s m => (fo s m).bind fun x m1 => (match x.fz with
    | .ref i => (match m1[i]? with
      | some (.lst ds) => (match ds.getLast? with
        | some d => .ok (.val d) (m1.set i (.lst ds.dropLast))
        | none => .bad)
      | _ => .bad)
    | _ => .bad)) := by
  refine pe_imp (pe_bm0 PySem.F.plainAttrs_list PySem.F.slot_list_pop (by first | rfl | kernel_rfl | (show builtinType _ = _; rw [builtinType_eq_fast]; kernel_rfl)) (mt_pop (X := X)) ho (base_eq h1) hl) fun σ H Q ⟨W, s, m, hs, out⟩ => ?_
  refine runz rb_sv hs out fun xv m1 W1 v H1 h1 p1 av o1 => ?_
  split at o1
  · rename_i i e1
    rw [e1] at av
    obtain ⟨a, rfl, ha⟩ := av
    split at o1
    · rename_i ds e2
      split at o1
      · rename_i d e3
        obtain ⟨vs, hv, rv⟩ := h1.cell i a _ ha e2
        obtain ⟨w, e4, rw'⟩ := reps_last rv e3
        refine ⟨.inl ⟨rfl, vs, SqL.of hv⟩, a, vs, w, rfl, rfl, hv, e4, ?_⟩
        obtain ⟨x2, p2⟩ := h1.toSt0.setCell (c := .lst ds.dropLast) (o := .lst vs.dropLast) ha ⟨vs.dropLast, upd_same, rv.dropLast⟩
        exact o1.fin2 x2 p2 rw'
      · exact o1.elim
    · exact o1.elim
  · exact o1.elim
theorem Vw.step {K : PySem.W.Frag} {mg : Str → Option Value} {W W1 : Wd} {H H1 : Hp} {d : D} {v : V} {m : Mu} (h : VwAt K mg W H H d v) (p : Step W H W1 H1) : VwAt K mg W1 H1 H1 d v := VwAt.step h p
theorem keyT_v {K : PySem.W.Frag} {mg : Str → Option Value} {W : Wd} {d : D} {v : V} {k : List Key} (r : Rep K mg W d v) (e : keyT d = some k) : ∃ b, v = .ref b ∧ W.Hf b = some (.tup (k.map kV)) := by
  cases d <;> try cases e
  rename_i ds
  obtain ⟨b, vs, rfl, hb, rr⟩ := r
  exact ⟨b, rfl, by rw [hb, keysD_v rr e]⟩
theorem dct_of {K : PySem.W.Frag} {mg : Str → Option Value} {W : Wd} {H : Hp} {d : D} {v : V} {m : Mu} (x : St0 K mg W m H) (h : isDct d = true) (hv : Vw K mg W H d v) : ∃ a, v = .ref a ∧ ((∃ kvs, H a = some (.dK kvs)) ∨ ∃ kvs, Rd H a (.dT kvs)) := by
  cases d <;> try cases h
  · obtain ⟨a, vs0, rfl, hh0, _, _⟩ := hv.dk x.sub
    exact ⟨a, rfl, .inl ⟨_, hh0⟩⟩
  · obtain ⟨a, vs0, rfl, hh0, _, _⟩ := hv.dt x.sub
    exact ⟨a, rfl, .inr ⟨_, hh0⟩⟩
theorem de_dget (hu : X.A.units + 200 < cLine) {o e f : Expr} {apos cpos : Pos} {fo : Sl → Mu → R D} {fe ff : Sl → Mu → R SV} (ho : PE X o (tP X Wx fo)) (he : PE X e (tS X Wx fe)) (hf : PE X f (tS X Wx ff)) (h1 : noSup o = true) (n1 : noStar e = true) (n2 : noStar f = true) (hl : (apos.endLine == cpos.line) = true) :
    PE X (.Call (.Attribute o "get" apos) [e, f] [] cpos) (tS X Wx fun s m => (fo s m).bind fun x m1 => if isDct (seeD m1 x) = true then (fe s m1).bind fun y m2 => (ff s m2).bind fun z m3 => (match dgetV (seeD m3 x) y.fz z.fz with
      | some d => .ok (.val d) m3
      | none => .bad) else .bad) := by
  have M : M2 X o "get" apos e f cpos := ⟨base_eq h1, by rw [star_cons n1, star_cons n2]; rfl, hl, by rw [star_cons n1, star_cons n2]; rfl⟩
  refine pe_imp (pe_dget2 (by omega) ho he hf M) fun σ H Q ⟨W, s, m, hs, out⟩ => ?_
  refine run rb_sv hs out fun xv m1 W1 v H1 _ h1 p1 av o1 => ?_
  have hv := see (m := m1) h1.toSt0 av
  split at o1
  · rename_i e0
    obtain ⟨a, rfl, hk⟩ := dct_of h1.toSt0 e0 hv
    refine ⟨a, rfl, hk.imp (fun ⟨kvs, z⟩ => ⟨kvs, .inl z⟩) (fun ⟨kvs, z⟩ => ⟨kvs, z⟩), ?_⟩
    refine runz rb_sv h1 o1 fun yv m2 W2 u H2 h2 p2 bv o2 => ?_
    refine runz rb_sv h2 o2 fun zv m3 W3 w H3 h3 p3 cv o3 => ?_
    have hv3 := see (m := m3) (H0 := H1) h3.toSt0 ((av.step (H1 := H1) p2).step (H1 := H1) p3)
    have bv3 := Rep.mono p3.le _ _ bv
    generalize seeD m3 xv = sd at o3 hv3
    cases sd <;> try exact o3.elim
    · rename_i ks ds
      dsimp only [dgetV] at o3
      obtain ⟨a', vs, ea, hh, hn, rr⟩ := hv3.dk h3.sub
      cases ea
      cases e2 : keyD yv.fz with
      | none => rw [e2] at o3; exact o3.elim
      | some key =>
        rw [e2] at o3
        have ek := keyD_w bv3 e2
        subst ek
        have g := DGet.k (k := key) hh
        obtain ⟨q1, q2⟩ := reps_val (k := key) hn rr
        refine ⟨_, g, o3.fin h3.toSt0 ?_⟩
        show Rep X.K X.mg W3 ((valD ks ds key).getD zv.fz) ((valV (ks.zip vs) key).getD w)
        cases ed : valD ks ds key with
        | some d =>
          obtain ⟨v', e3, r3⟩ := q1 d ed
          have e4 : valV (ks.zip vs) key = some v' := e3
          rw [e4]
          exact r3
        | none =>
          have e4 : valV (ks.zip vs) key = none := q2 ed
          rw [e4]
          exact cv
    · rename_i ks ds
      dsimp only [dgetV] at o3
      obtain ⟨a', vs, ea, hh, hn, rr⟩ := hv3.dt h3.sub
      cases ea
      cases e2 : keyT yv.fz with
      | none => rw [e2] at o3; exact o3.elim
      | some key =>
        rw [e2] at o3
        obtain ⟨b, rfl, hb⟩ := keyT_v bv3 e2
        have g := dget_rt (k := key) hh (h3.toSt0.sub _ _ hb)
        obtain ⟨q1, q2⟩ := reps_val (k := key) hn rr
        refine ⟨_, g, o3.fin h3.toSt0 ?_⟩
        show Rep X.K X.mg W3 ((valD ks ds key).getD zv.fz) ((valV (ks.zip vs) key).getD w)
        cases ed : valD ks ds key with
        | some d =>
          obtain ⟨v', e3, r3⟩ := q1 d ed
          have e4 : valV (ks.zip vs) key = some v' := e3
          rw [e4]
          exact r3
        | none =>
          have e4 : valV (ks.zip vs) key = none := q2 ed
          rw [e4]
          exact cv
  · exact o1.elim
theorem de_dnewK {pos : Pos} : PE X (.Dict [] [] pos) (tS X Wx fun _ m => .ok (.own (.dk [] [])) m) :=
  pe_imp pe_dnewK fun σ H Q ⟨W, s, m, hs, o⟩ => own_new (c := .dk [] []) hs.toSt0 (fun p => ⟨[], upd_same, rfl, rfl⟩) o
theorem de_dnewT {pos : Pos} : PE X (.Dict [] [] pos) (tS X Wx fun _ m => .ok (.own (.dt [] [])) m) :=
  pe_imp pe_dnewT fun σ H Q ⟨W, s, m, hs, o⟩ => own_new (c := .dt [] []) hs.toSt0 (fun p => ⟨[], upd_same, rfl, rfl⟩) o
end
end Dp
end

section
set_option Elab.async false
set_option linter.all false
set_option maxRecDepth 100000
set_option maxHeartbeats 1000000
/-! The deep layer, part 15: statements. -/
namespace Dp
open PySem PySem.Spec PyProof.Rows L2
section
variable (K : PySem.W.Frag) (mg : Str → Option Value)
/-- within a body: W0, H0 the entry, Wl a world below -/
structure HoldF (W0 : Wd) (H0 : Hp) (Wl : Wd) (W : Wd) (s : Sl) (m : Mu) (σ : L2.St) (H : Hp) : Prop where
  h : Holds K mg W s m σ H
  st : Step W0 H0 W H
  of : ∀ (i : Nat) (c : Cell) (a : Addr), s[i]? = some (some (.own c)) → σ[i]? = some (some (.ref a)) → H0 a = none
  le : Le Wl W
def OutS (Wx : WX) (W0 : Wd) (H0 : Hp) (Wl : Wd) (r : SR) (D : Ends) : Prop := match r with
  | .nx s m => ∀ (W : Wd) (σ : L2.St) (H : Hp), HoldF K mg W0 H0 Wl W s m σ H → D.nx σ H
  | .bk s m => ∀ (W : Wd) (σ : L2.St) (H : Hp), HoldF K mg W0 H0 Wl W s m σ H → D.bk σ H
  | .ct s m => ∀ (W : Wd) (σ : L2.St) (H : Hp), HoldF K mg W0 H0 Wl W s m σ H → D.ct σ H
  | .rt v m => ∀ (W : Wd) (u : V) (H : Hp), St0 K mg W m H → Step W0 H0 W H → SvAt K mg W H0 H v u → D.rt u H
  | .ex x s m => ∀ (W : Wd) (σ : L2.St) (d : Option Addr) (H : Hp), HoldF K mg W0 H0 Wl W s m σ H → ExAt K mg W x d → Wx (.ref (He.ga K x.c)) d σ H
  | .bad => False
def tSt (Wx : WX) (W0 : Wd) (H0 : Hp) (f : Sl → Mu → SR) : TS := fun D σ H => ∃ (Wl W : Wd) (s : Sl) (m : Mu), HoldF K mg W0 H0 Wl W s m σ H ∧ OutS K mg Wx W0 H0 Wl (f s m) D
end
section
variable {K : PySem.W.Frag} {mg : Str → Option Value} {Wx : WX} {W0 Wl W W1 : Wd} {H0 H H1 : Hp} {s : Sl} {m m1 : Mu} {σ : L2.St} {D : Ends}
theorem HoldF.step (h : HoldF K mg W0 H0 Wl W s m σ H) (p : Step W H W1 H1) (x : St0 K mg W1 m1 H1) : HoldF K mg W0 H0 Wl W1 s m1 σ H1 :=
  ⟨h.h.step p x, h.st.trans h.h.toSt0 p, h.of, h.le.trans p.le⟩
/-- an expression within a statement -/
theorem st_run {α β : Type} {A : Wd → Hp → Hp → α → β → Prop} (f : Sl → Mu → R α) {k : α → Mu → SR} {Q1 : β → Hp → Prop} (h : HoldF K mg W0 H0 Wl W s m σ H) (o : OutS K mg Wx W0 H0 Wl ((f s m).st s k) D)
    (next : ∀ a m1 W1 b H1, f s m = .ok a m1 → HoldF K mg W0 H0 Wl W1 s m1 σ H1 → Step W H W1 H1 → A W1 H H1 a b → OutS K mg Wx W0 H0 Wl (k a m1) D → Q1 b H1) : tG K mg A Wx f σ H Q1 := by
  refine ⟨W, s, m, h.h, ?_⟩
  cases e : f s m with
  | ok a m1 =>
    rw [e] at o
    exact fun W1 b H1 x1 p av => next a m1 W1 b H1 e (h.step p x1) p av o
  | ex x m1 =>
    rw [e] at o
    exact fun W1 d H1 x1 p ea => o W1 σ d H1 (h.step p x1) ea
  | bad =>
    rw [e] at o
    exact o.elim
/-- .. whose value is data from now on -/
theorem st_runz (f : Sl → Mu → R SV) {k : SV → Mu → SR} {Q1 : V → Hp → Prop} (h : HoldF K mg W0 H0 Wl W s m σ H) (o : OutS K mg Wx W0 H0 Wl ((f s m).st s k) D)
    (next : ∀ a m1 W1 v H1, HoldF K mg W0 H0 Wl W1 s m1 σ H1 → Step W H W1 H1 → Rep K mg W1 a.fz v → OutS K mg Wx W0 H0 Wl (k a m1) D → Q1 v H1) : tG K mg (SvAt K mg) Wx f σ H Q1 :=
  st_run f h o fun a m1 W1 v H1 e h1 p av o1 => by
    obtain ⟨W2, h2, p2, r2, l2⟩ := freeze_new h.h p h1.h av
    exact next a m1 W2 v H1 ⟨h2, h.st.trans h.h.toSt0 p2, h.of, h.le.trans p2.le⟩ p2 r2 o1
theorem HoldF.put (h : HoldF K mg W0 H0 Wl W s m σ H) (i : Nat) {d : Dp.D} {v : V} (r : Rep K mg W d v) : HoldF K mg W0 H0 Wl W (s.set i (some (.val d))) m (σ.set i (some v)) H := by
  refine ⟨h.h.put i (.inl ⟨d, rfl, r⟩), h.st, fun j c a e1 e2 => ?_, h.le⟩
  by_cases hj : i = j
  · subst hj
    by_cases hl : i < s.length
    · rw [List.getElem?_set_self hl] at e1
      cases e1
    · rw [List.getElem?_eq_none (by simpa using hl)] at e1
      cases e1
  · rw [List.getElem?_set_ne hj] at e1 e2
    exact h.of j c a e1 e2
theorem HoldF.putO (h : HoldF K mg W0 H0 Wl W s m σ H) (i : Nat) {c : Cell} {a : Addr} (o : Own K mg W H a c) (hn : H0 a = none) (nn : ∀ (j : Nat) (c' : Cell), s[j]? = some (some (.own c')) → σ[j]? ≠ some (some (.ref a))) : HoldF K mg W0 H0 Wl W (s.set i (some (.own c))) m (σ.set i (some (.ref a))) H := by
  refine ⟨h.h.put i (.inr ⟨c, a, rfl, rfl, o, nn⟩), h.st, fun j c' b e1 e2 => ?_, h.le⟩
  by_cases hj : i = j
  · subst hj
    by_cases hl : i < s.length
    · rw [List.getElem?_set_self (by rw [← h.h.slen]; exact hl)] at e2
      cases e2
      exact hn
    · rw [List.getElem?_eq_none (by simpa using hl)] at e1
      cases e1
  · rw [List.getElem?_set_ne hj] at e1 e2
    exact h.of j c' b e1 e2
theorem HoldF.forget (h : HoldF K mg W0 H0 Wl W s m σ H) (vs : List Nat) : HoldF K mg W0 H0 Wl W (wipeS s vs) m σ H := by
  refine ⟨h.h.forget vs, h.st, fun j c a e1 e2 => h.of j c a ?_ e2, h.le⟩
  revert e1
  induction vs with
  | nil => exact id
  | cons v vs ih =>
    intro e1
    have e : ((wipeS s vs).set v none)[j]? = some (some (.own c)) := e1
    by_cases hj : v = j
    · subst hj
      by_cases hl : v < (wipeS s vs).length
      · rw [List.getElem?_set_self hl] at e
        cases e
      · rw [List.getElem?_eq_none (by simpa using hl)] at e
        cases e
    · rw [List.getElem?_set_ne hj] at e
      exact ih e
/-- a container of one's own is changed -/
theorem HoldF.write (h : HoldF K mg W0 H0 Wl W s m σ H) {i : Nat} {c c' : Cell} {a : Addr} {o : HO} (hs : s[i]? = some (some (.own c))) (hσ : σ[i]? = some (some (.ref a))) (hc : CellAt K mg W (upd H a o) a c') : HoldF K mg W0 H0 Wl W (s.set i (some (.own c'))) m σ (upd H a o) := by
  obtain ⟨a', e', ow⟩ := h.h.own i c hs
  rw [hσ] at e'
  cases e'
  have x2 := h.h.toSt0.write ow.nf ow.nt o
  have il : i < s.length := (List.getElem?_eq_some_iff.mp hs).1
  have es : ∀ (j : Nat) (x : SV), (s.set i (some (.own c')))[j]? = some (some x) → (j = i ∧ x = .own c') ∨ (j ≠ i ∧ s[j]? = some (some x)) := fun j x e => by
    by_cases hj : i = j
    · subst hj
      rw [List.getElem?_set_self il] at e
      cases e
      exact .inl ⟨rfl, rfl⟩
    · rw [List.getElem?_set_ne hj] at e
      exact .inr ⟨fun z => hj z.symm, e⟩
  refine ⟨⟨x2, by rw [List.length_set]; exact h.h.slen, fun j d e => ?_, fun j c1 e => ?_, fun j k c1 c2 b e1 e2 b1 b2 => ?_⟩, h.st.updFresh (h.of i c a hs hσ) o, fun j c1 b e1 e2 => ?_, h.le⟩
  · rcases es j _ e with ⟨_, z⟩ | ⟨_, e⟩
    · cases z
    · exact h.h.slot j d e
  · rcases es j _ e with ⟨rfl, z⟩ | ⟨hj, e⟩
    · cases z
      exact ⟨a, hσ, hc, ow.nf, ow.nt⟩
    · obtain ⟨b, eb, ob⟩ := h.h.own j c1 e
      have hb : b ≠ a := fun z => by
        subst z
        exact hj (h.h.dis j i c1 c b e hs eb hσ)
      exact ⟨b, eb, ob.at_.mono (Le.refl W) (fun u q => by rw [upd_ne hb]; exact q), ob.nf, ob.nt⟩
  · rcases es j _ e1 with ⟨rfl, z⟩ | ⟨hj, e1'⟩
    · rcases es k _ e2 with ⟨rfl, _⟩ | ⟨hk, e2'⟩
      · rfl
      · exact h.h.dis j k c c2 b hs e2' b1 b2
    · rcases es k _ e2 with ⟨rfl, _⟩ | ⟨hk, e2'⟩
      · exact h.h.dis j k c1 c b e1' hs b1 b2
      · exact h.h.dis j k c1 c2 b e1' e2' b1 b2
  · rcases es j _ e1 with ⟨rfl, z⟩ | ⟨_, e1⟩
    · exact h.of j c b hs e2
    · exact h.of j c1 b e1 e2
/-- .. is left as it is from now on -/
theorem HoldF.fix (h : HoldF K mg W0 H0 Wl W s m σ H) {i : Nat} {c : Cell} (hs : s[i]? = some (some (.own c))) : ∃ W2, HoldF K mg W0 H0 Wl W2 (s.set i (some (.val c.fz))) m σ H := by
  obtain ⟨a, hσ, ow⟩ := h.h.own i c hs
  obtain ⟨u, eu⟩ := ow.at_.ex
  obtain ⟨x2, l2⟩ := h.h.toSt0.freeze eu ow.nf ow.nt
  have il : i < s.length := (List.getElem?_eq_some_iff.mp hs).1
  have es : ∀ (j : Nat) (x : SV), (s.set i (some (.val c.fz)))[j]? = some (some x) → (j = i ∧ x = .val c.fz) ∨ (j ≠ i ∧ s[j]? = some (some x)) := fun j x e => by
    by_cases hj : i = j
    · subst hj
      rw [List.getElem?_set_self il] at e
      cases e
      exact .inl ⟨rfl, rfl⟩
    · rw [List.getElem?_set_ne hj] at e
      exact .inr ⟨fun z => hj z.symm, e⟩
  refine ⟨⟨upd W.Hf a u, W.th⟩, ⟨x2, by rw [List.length_set]; exact h.h.slen, fun j d e => ?_, fun j c1 e => ?_, fun j k c1 c2 b e1 e2 b1 b2 => ?_⟩, ⟨h.st.sub.trans l2.sub, h.st.th, h.st.keep, fun b o e hz nb t => ?_⟩, fun j c1 b e1 e2 => ?_, h.le.trans l2⟩
  · rcases es j _ e with ⟨rfl, z⟩ | ⟨_, e⟩
    · cases z
      exact ⟨_, hσ, ow.at_.repU eu ow.nf⟩
    · obtain ⟨v, q, r⟩ := h.h.slot j d e
      exact ⟨v, q, Rep.mono l2 d v r⟩
  · rcases es j _ e with ⟨_, z⟩ | ⟨hj, e⟩
    · cases z
    · obtain ⟨b, eb, ob⟩ := h.h.own j c1 e
      have hb : b ≠ a := fun z => by
        subst z
        exact hj (h.h.dis j i c1 c b e hs eb hσ)
      refine ⟨b, eb, ob.at_.mono l2 fun _ q => q, ?_, ob.nt⟩
      show upd W.Hf a u b = none
      rw [upd_ne hb]
      exact ob.nf
  · rcases es j _ e1 with ⟨_, z⟩ | ⟨_, e1⟩
    · cases z
    · rcases es k _ e2 with ⟨_, z⟩ | ⟨_, e2⟩
      · cases z
      · exact h.h.dis j k c1 c2 b e1 e2 b1 b2
  · have hb : b ≠ a := ne_of_none e (h.of i c a hs hσ)
    show upd W.Hf a u b = none
    rw [upd_ne hb]
    exact h.st.nofz b o e hz nb t
  · rcases es j _ e1 with ⟨_, z⟩ | ⟨_, e1⟩
    · cases z
    · exact h.of j c1 b e1 e2
/-- a container of one's own becomes a shared one -/
theorem HoldF.lend (h : HoldF K mg W0 H0 Wl W s m σ H) {i : Nat} {c : Cell} {a : Addr} (ow : Own K mg W H a c) (hn : H0 a = none) (nn : ∀ (j : Nat) (c' : Cell), s[j]? = some (some (.own c')) → σ[j]? ≠ some (some (.ref a))) :
    ∃ W2, HoldF K mg W0 H0 Wl W2 (s.set i (some (.val (.ref m.length)))) (m ++ [c]) (σ.set i (some (.ref a))) H := by
  have l : Le W ⟨W.Hf, W.th ++ [a]⟩ := ⟨Same.refl _, [a], rfl⟩
  have x2 : St0 K mg ⟨W.Hf, W.th ++ [a]⟩ (m ++ [c]) H := by
    refine ⟨h.h.sub, by simp [h.h.len], fun j b c' e1 e2 => ?_, fun b hb => ?_, ?_⟩
    · have e1 : (W.th ++ [a])[j]? = some b := e1
      by_cases hj : j < W.th.length
      · rw [List.getElem?_append_left hj] at e1
        rw [List.getElem?_append_left (by rw [← h.h.len]; exact hj)] at e2
        exact (h.h.cell j b c' e1 e2).mono l fun _ q => q
      · have ej : j = W.th.length := by
          have := (List.getElem?_eq_some_iff.mp e1).1
          simp at this
          omega
        subst ej
        rw [List.getElem?_append_right (Nat.le_refl _)] at e1
        rw [h.h.len, List.getElem?_append_right (Nat.le_refl _)] at e2
        simp at e1 e2
        subst e1 e2
        exact ow.at_.mono l fun _ q => q
    · rcases List.mem_append.mp (show b ∈ W.th ++ [a] from hb) with z | z
      · exact h.h.nf b z
      · rw [List.mem_singleton.mp z]; exact ow.nf
    · show (W.th ++ [a]).Nodup
      rw [List.nodup_append]
      exact ⟨h.h.nd, by simp, fun b hb b' hb' e => ow.nt (by rw [← List.mem_singleton.mp hb', ← e]; exact hb)⟩
  obtain ⟨more, et, hmore⟩ := h.st.th
  have st2 : Step W0 H0 ⟨W.Hf, W.th ++ [a]⟩ H := by
    refine ⟨h.st.sub, ⟨more ++ [a], by show W.th ++ [a] = _; rw [et, List.append_assoc], fun b hb => ?_⟩, h.st.keep, h.st.nofz⟩
    rcases List.mem_append.mp hb with z | z
    · exact hmore b z
    · rw [List.mem_singleton.mp z]; exact hn
  have h2 : HoldF K mg W0 H0 Wl ⟨W.Hf, W.th ++ [a]⟩ s (m ++ [c]) σ H := by
    refine ⟨⟨x2, h.h.slen, fun j d e => ?_, fun j c1 e => ?_, h.h.dis⟩, st2, h.of, h.le.trans l⟩
    · obtain ⟨v, q, r⟩ := h.h.slot j d e
      exact ⟨v, q, Rep.mono l d v r⟩
    · obtain ⟨b, eb, ob⟩ := h.h.own j c1 e
      refine ⟨b, eb, ob.at_.mono l fun _ q => q, ob.nf, fun hb => ?_⟩
      rcases List.mem_append.mp (show b ∈ W.th ++ [a] from hb) with z | z
      · exact ob.nt z
      · rw [List.mem_singleton.mp z] at eb
        exact nn j c1 e eb
  exact ⟨_, h2.put i ⟨a, rfl, by show (W.th ++ [a])[m.length]? = some a; rw [← h.h.len]; simp⟩⟩
end
section
variable {X : Cx} {Wx : WX} {W0 : Wd} {H0 : Hp}
abbrev tD (X : Cx) (Wx : WX) (W0 : Wd) (H0 : Hp) (f : Sl → Mu → SR) : TS := tSt X.K X.mg Wx W0 H0 f
theorem pss_imp {e : List Stmt} {t t' : TS} (h : PSs X e t) (i : ∀ D σ H, t' D σ H → t D σ H) : PSs X e t' := ⟨fun pins s σ H Q I hw => h.run pins s σ H Q I (i _ _ _ hw)⟩
theorem ds_nil : PSs X [] (tD X Wx W0 H0 fun s m => .nx s m) := pss_imp pss_nil fun D σ H ⟨Wl, W, s, m, h, o⟩ => o W σ H h
theorem ds_cons {st : Stmt} {rest : List Stmt} {f g : Sl → Mu → SR} (h1 : PS X st (tD X Wx W0 H0 f)) (h2 : PSs X rest (tD X Wx W0 H0 g)) : PSs X (st :: rest) (tD X Wx W0 H0 fun s m => (f s m).then_ fun s1 m1 => g s1 m1) := by
  refine pss_imp (pss_cons h1 h2) fun D σ H ⟨Wl, W, s, m, h, o⟩ => ⟨Wl, W, s, m, h, ?_⟩
  dsimp only at o
  revert o
  cases f s m with
  | nx s' m' => exact fun o W' σ' H' h' => ⟨Wl, W', s', m', h', o⟩
  | rt v m' => exact id
  | bk s' m' => exact id
  | ct s' m' => exact id
  | ex x s' m' => exact id
  | bad => exact id
/-- what is no statement of the text -/
theorem ds_ghost {rest : List Stmt} {f g : Sl → Mu → SR} (h2 : PSs X rest (tD X Wx W0 H0 g)) (k : ∀ (Wl W : Wd) (s : Sl) (m : Mu) (σ : L2.St) (H : Hp), HoldF X.K X.mg W0 H0 Wl W s m σ H → f s m = .bad ∨ ∃ s1 m1, f s m = .nx s1 m1 ∧ ∃ W1, HoldF X.K X.mg W0 H0 Wl W1 s1 m1 σ H) : PSs X rest (tD X Wx W0 H0 fun s m => (f s m).then_ fun s1 m1 => g s1 m1) := by
  refine pss_imp h2 fun D σ H ⟨Wl, W, s, m, h, o⟩ => ?_
  dsimp only at o
  rcases k Wl W s m σ H h with e | ⟨s1, m1, e, W1, h1⟩
  · rw [e] at o
    exact o.elim
  · rw [e] at o
    exact ⟨Wl, W1, s1, m1, h1, o⟩
theorem ds_gfz {rest : List Stmt} {i : Nat} {g : Sl → Mu → SR} (h2 : PSs X rest (tD X Wx W0 H0 g)) : PSs X rest (tD X Wx W0 H0 fun s m => SR.then_ (match s[i]? with | some (some (.own c)) => .nx (s.set i (some (.val c.fz))) m | _ => .bad) fun s1 m1 => g s1 m1) := by
  refine ds_ghost (f := fun s m => match s[i]? with | some (some (.own c)) => .nx (s.set i (some (.val c.fz))) m | _ => .bad) h2 fun Wl W s m σ H h => ?_
  skip
  split
  · rename_i c e
    obtain ⟨W2, h2⟩ := h.fix e
    exact .inr ⟨_, _, rfl, W2, h2⟩
  · exact .inl rfl
theorem ds_gfg {rest : List Stmt} {is : List Nat} {g : Sl → Mu → SR} (h2 : PSs X rest (tD X Wx W0 H0 g)) : PSs X rest (tD X Wx W0 H0 fun s m => SR.then_ (.nx (wipeS s is) m) fun s1 m1 => g s1 m1) :=
  ds_ghost (f := fun s m => .nx (wipeS s is) m) h2 fun Wl W s m σ H h => .inr ⟨_, _, rfl, W, h.forget is⟩
theorem d_pass {pos : Pos} : PS X (.Pass pos) (tD X Wx W0 H0 fun s m => .nx s m) := ps_imp ps_pass fun D σ H ⟨Wl, W, s, m, h, o⟩ => o W σ H h
theorem d_brk {pos : Pos} : PS X (.Break pos) (tD X Wx W0 H0 fun s m => .bk s m) := ps_imp ps_break fun D σ H ⟨Wl, W, s, m, h, o⟩ => o W σ H h
theorem d_cont {pos : Pos} : PS X (.Continue pos) (tD X Wx W0 H0 fun s m => .ct s m) := ps_imp ps_continue fun D σ H ⟨Wl, W, s, m, h, o⟩ => o W σ H h
theorem d_never {st : Stmt} : PS X st (tD X Wx W0 H0 fun _ _ => .bad) := ps_imp ps_never fun D σ H ⟨Wl, W, s, m, h, o⟩ => o
theorem d_retN {pos : Pos} : PS X (.Return none pos) (tD X Wx W0 H0 fun _ m => .rt (.val .non) m) := ps_imp ps_retN fun D σ H ⟨Wl, W, s, m, h, o⟩ => o W .non H h.h.toSt0 h.st rfl
theorem d_ex {e : Expr} {pos : Pos} {f : Sl → Mu → R SV} (he : PE X e (tS X Wx f)) (hs : swapsWith e none pos.line X.env = pure false) : PS X (.Expr e pos) (tD X Wx W0 H0 fun s m => (f s m).st s fun _ m1 => .nx s m1) :=
  ps_imp (ps_expr he hs) fun D σ H ⟨Wl, W, s, m, h, o⟩ => st_run f h o fun a m1 W1 b H1 _ h1 _ _ o1 => o1 W1 σ H1 h1
theorem d_doc {x : Str} {j : Nat} {pos pos' : Pos} : PS X (.Expr (.Constant (.str x) j pos) pos') (tD X Wx W0 H0 fun s m => .nx s m) := ps_imp ps_doc fun D σ H ⟨Wl, W, s, m, h, o⟩ => o W σ H h
theorem d_ret {e : Expr} {pos : Pos} {f : Sl → Mu → R SV} (he : PE X e (tS X Wx f)) : PS X (.Return (some e) pos) (tD X Wx W0 H0 fun s m => (f s m).st s fun x m1 => .rt x m1) :=
  ps_imp (ps_ret he) fun D σ H ⟨Wl, W, s, m, h, o⟩ => st_run f h o fun a m1 W1 b H1 _ h1 p1 av o1 => o1 W1 b H1 h1.h.toSt0 h1.st (rb_sv W0 H0 W H m W1 H1 a b h.h.toSt0 h.st p1 av)
theorem d_retS {i : Nat} {x : Str} {pos pos' : Pos} (hv : PE X (.Name x pos') (tVar i)) : PS X (.Return (some (.Name x pos')) pos) (tD X Wx W0 H0 fun s m => match s[i]? with | some (some (.own c)) => .rt (.own c) m | _ => .bad) := by
  refine ps_imp (ps_ret hv) fun D σ H ⟨Wl, W, s, m, h, o⟩ => ?_
  revert o
  dsimp only
  split
  · rename_i c e
    intro o
    obtain ⟨a, q, ow⟩ := h.h.own i c e
    exact ⟨_, q, o W _ H h.h.toSt0 h.st ⟨a, rfl, ow, h.of i c a e q⟩⟩
  · exact fun o => o.elim
theorem d_ife {c : Expr} {a b : List Stmt} {pos : Pos} {fc : Sl → Mu → R Bool} {f g : Sl → Mu → SR} (hc : PT X c (tT X Wx fc)) (ha : PSs X a (tD X Wx W0 H0 f)) (hb : PSs X b (tD X Wx W0 H0 g)) :
    PS X (.If c a b pos) (tD X Wx W0 H0 fun s m => (fc s m).st s fun t m1 => if t = true then f s m1 else g s m1) := by
  refine ps_imp (ps_if hc ha hb) fun D σ H ⟨Wl, W, s, m, h, o⟩ => st_run fc h o fun t m1 W1 t' H1 _ h1 _ et o1 => ?_
  obtain rfl : t = t' := et
  cases t with
  | true => exact ⟨Wl, W1, s, m1, h1, o1⟩
  | false => exact ⟨Wl, W1, s, m1, h1, o1⟩
/-! ### stores -/
theorem bind_names_s {K : PySem.W.Frag} {mg : Str → Option Value} {Wl W : Wd} {m : Mu} {H : Hp} {Q : L2.St → Hp → Prop} : ∀ (l : List Nat) (s : Sl) (σ : L2.St) (ds : List D) (vs : List V), l.length = ds.length → HoldF K mg W0 H0 Wl W s m σ H → Reps K mg W ds vs →
    (∀ σ2, HoldF K mg W0 H0 Wl W ((l.zip ds).foldl (fun s p => s.set p.1 (some (.val p.2))) s) m σ2 H → Q σ2 H) → gNames l vs σ H Q
  | [], s, σ, [], vs, _, h, r, k => by
    cases r
    exact ⟨rfl, k σ h⟩
  | i :: l, s, σ, d :: ds, vs, hl, h, ⟨v, t, e, rv, rt⟩, k => by
    subst e
    exact ⟨v, t, rfl, bind_names_s l (s.set i (some (.val d))) (σ.set i (some v)) ds t (by simpa using hl) (h.put i rv) rt k⟩
  | [], _, _, _ :: _, _, hl, _, _, _ => by simp at hl
  | _ :: _, _, _, [], _, hl, _, _, _ => by simp at hl
theorem bind_s {K : PySem.W.Frag} {mg : Str → Option Value} {Wl W : Wd} {m : Mu} {H : Hp} {t : T} {s s2 : Sl} {σ : L2.St} {d : D} {v : V} {Q : L2.St → Hp → Prop} (h : HoldF K mg W0 H0 Wl W s m σ H) (r : Rep K mg W d v) (e : bindT s t d = some s2)
    (k : ∀ σ2, HoldF K mg W0 H0 Wl W s2 m σ2 H → Q σ2 H) : tGT K t v σ H Q := by
  cases t with
  | nm i =>
    cases e
    exact k _ (h.put i r)
  | tp l =>
    cases d <;> try cases e
    rename_i ds
    have e' : (if l.length = ds.length then some ((l.zip ds).foldl (fun s p => s.set p.1 (some (.val p.2))) s) else none) = some s2 := e
    split at e'
    · rename_i hl
      cases e'
      obtain ⟨a, vs, rfl, hq, rs⟩ := r
      exact ⟨a, vs, rfl, SqT.of (h.h.sub _ _ hq), by rw [← rs.length, hl], bind_names_s l s σ ds vs hl h rs k⟩
    · cases e'
  | tl l =>
    cases d <;> try cases e
    rename_i ds
    have e' : (if l.length = ds.length then some ((l.zip ds).foldl (fun s p => s.set p.1 (some (.val p.2))) s) else none) = some s2 := e
    split at e'
    · rename_i hl
      cases e'
      obtain ⟨a, vs, rfl, hq, rs⟩ := r
      exact ⟨a, vs, rfl, SqL.of (h.h.sub _ _ hq), by rw [← rs.length, hl], bind_names_s l s σ ds vs hl h rs k⟩
    · cases e'
theorem d_asg {st : Stmt} {t : T} {f : Sl → Mu → R SV} (h0 : PS X st (tAsg (tS X Wx f) (tGT X.K t))) : PS X st (tD X Wx W0 H0 fun s m => (f s m).st s fun x m1 => (match bindT s t x.fz with | some s1 => .nx s1 m1 | none => .bad)) := by
  refine ps_imp h0 fun D σ H ⟨Wl, W, s, m, h, o⟩ => st_runz f h o fun a m1 W1 v H1 h1 p1 r o1 => ?_
  cases e : bindT s t a.fz with
  | none => rw [e] at o1; exact o1.elim
  | some s2 =>
    rw [e] at o1
    exact bind_s h1 r e fun σ2 h2 => o1 W1 σ2 H1 h2
theorem own_nn {K : PySem.W.Frag} {mg : Str → Option Value} {W : Wd} {s : Sl} {m : Mu} {σ : L2.St} {H : Hp} {a : Addr} (h : Holds K mg W s m σ H) (n : H a = none) : ∀ (j : Nat) (c' : Cell), s[j]? = some (some (.own c')) → σ[j]? ≠ some (some (.ref a)) := fun j c' e z => by
  obtain ⟨b, eb, ob⟩ := h.own j c' e
  rw [z] at eb
  cases eb
  obtain ⟨u, eu⟩ := ob.at_.ex
  rw [n] at eu
  cases eu
theorem d_asgO {st : Stmt} {i : Nat} {f : Sl → Mu → R SV} (h0 : PS X st (tAsg (tS X Wx f) (gName i))) : PS X st (tD X Wx W0 H0 fun s m => (f s m).st s fun x m1 => (match x with | .own c => .nx (s.set i (some (.own c))) m1 | _ => .bad)) := by
  refine ps_imp h0 fun D σ H ⟨Wl, W, s, m, h, o⟩ => st_run f h o fun a m1 W1 v H1 _ h1 p1 av o1 => ?_
  cases a with
  | val d => exact o1.elim
  | own c =>
    obtain ⟨p, rfl, ow, hn⟩ := rb_sv W0 H0 W H m W1 H1 _ _ h.h.toSt0 h.st p1 av
    obtain ⟨p', e', _, hn'⟩ := av
    cases e'
    exact o1 W1 _ H1 (h1.putO i ow hn (own_nn (s := s) (σ := σ) h.h hn'))
theorem d_asgM {st : Stmt} {i : Nat} {f : Sl → Mu → R SV} (h0 : PS X st (tAsg (tS X Wx f) (gName i))) : PS X st (tD X Wx W0 H0 fun s m => (f s m).st s fun x m1 => (match x with | .own c => .nx (s.set i (some (.val (.ref m1.length)))) (m1 ++ [c]) | _ => .bad)) := by
  refine ps_imp h0 fun D σ H ⟨Wl, W, s, m, h, o⟩ => st_run f h o fun a m1 W1 v H1 _ h1 p1 av o1 => ?_
  cases a with
  | val d => exact o1.elim
  | own c =>
    obtain ⟨p, rfl, ow, hn⟩ := rb_sv W0 H0 W H m W1 H1 _ _ h.h.toSt0 h.st p1 av
    obtain ⟨p', e', _, hn'⟩ := av
    cases e'
    obtain ⟨W2, h2⟩ := h1.lend (i := i) ow hn (own_nn (s := s) (σ := σ) h.h hn')
    exact o1 W2 _ H1 h2
end
end Dp
end

section
set_option Elab.async false
set_option linter.all false
set_option maxRecDepth 100000
set_option maxHeartbeats 1000000
/-! The deep layer, part 16: changes of containers, loops. -/
namespace Dp
open PySem PySem.Spec PyProof.Rows L2
section
variable {K : PySem.W.Frag} {mg : Str → Option Value} {Wx : WX} {W0 Wl W W1 : Wd} {H0 H H1 : Hp} {s : Sl} {m m1 : Mu} {σ : L2.St} {D : Ends}
/-- the container at a slot is changed -/
theorem chgO_ok {α : Type} {i : Nat} {f : Cell → Option (Cell × α)} {k : α → Sl → Mu → SR} (h : HoldF K mg W0 H0 Wl W s m σ H) (o : OutS K mg Wx W0 H0 Wl (chgO i s m f k) D) :
    ∃ c a c' r, s[i]? = some (some (.own c)) ∧ σ[i]? = some (some (.ref a)) ∧ CellAt K mg W H a c ∧ f c = some (c', r) ∧
      ∀ o' : HO, CellAt K mg W (upd H a o') a c' → HoldF K mg W0 H0 Wl W (s.set i (some (.own c'))) m σ (upd H a o') ∧ OutS K mg Wx W0 H0 Wl (k r (s.set i (some (.own c'))) m) D := by
  unfold chgO at o
  split at o
  · rename_i c e
    obtain ⟨a, ea, ow⟩ := h.h.own i c e
    split at o
    · rename_i c' r ef
      exact ⟨c, a, c', r, e, ea, ow.at_, ef, fun o' hc => ⟨h.write e ea hc, o⟩⟩
    · exact o.elim
  · exact o.elim
theorem chg_ok {α : Type} {i : Nat} {f : Cell → Option (Cell × α)} {k : α → Sl → Mu → SR} (h : HoldF K mg W0 H0 Wl W s m σ H) (o : OutS K mg Wx W0 H0 Wl (chg i s m f k) D) :
    ∃ c a c' r, σ[i]? = some (some (.ref a)) ∧ CellAt K mg W H a c ∧ f c = some (c', r) ∧
      ∀ o' : HO, CellAt K mg W (upd H a o') a c' → ∃ s' m', HoldF K mg W0 H0 Wl W s' m' σ (upd H a o') ∧ OutS K mg Wx W0 H0 Wl (k r s' m') D := by
  unfold chg at o
  split at o
  · rename_i c e
    obtain ⟨a, ea, ow⟩ := h.h.own i c e
    split at o
    · rename_i c' r ef
      exact ⟨c, a, c', r, ea, ow.at_, ef, fun o' hc => ⟨_, _, h.write e ea hc, o⟩⟩
    · exact o.elim
  · rename_i j e
    obtain ⟨v, ev, a, rfl, ha⟩ := h.h.slot i _ e
    split at o
    · rename_i c ec
      split at o
      · rename_i c' r ef
        refine ⟨c, a, c', r, ev, h.h.cell j a c ha ec, ef, fun o' hc => ⟨s, m.set j c', ?_, o⟩⟩
        obtain ⟨x2, p2⟩ := h.h.toSt0.setCell ha hc
        exact h.step p2 x2
      · exact o.elim
    · exact o.elim
  · exact o.elim
end
def omName : OM → String
  | .append => "append" | .insert => "insert" | .pop => "pop" | .popAt => "pop" | .reverse => "reverse" | .extend => "extend" | .clear => "clear"
section
variable {X : Cx} {Wx : WX} {W0 : Wd} {H0 : Hp}
/-- what a method of a list is asked for -/
def OmOk (X : Cx) (f : OM) : Prop := ∃ (id : String) (r : V → List V → Hp → VK → Prop), Slot "list" (Str.ofString (omName f)) id ∧ typeOf (.builtin id) = pure (.type "method_descriptor") ∧ MtR X id r ∧
  ∀ (W : Wd) (H : Hp) (a : Addr) (c c' : Cell) (ds : List D) (d : D) (vs : List V) (Q : VK), CellAt X.K X.mg W H a c → Reps X.K X.mg W ds vs → opM f c ds = some (c', d) →
    (∀ (u : V) (o' : HO), CellAt X.K X.mg W (upd H a o') a c' → Rep X.K X.mg W d u → Q u (upd H a o')) → (∃ xs, H a = some (.lst xs)) ∧ r (.ref a) vs H Q
theorem reps1 {K : PySem.W.Frag} {mg : Str → Option Value} {W : Wd} {d : D} {vs : List V} (h : Reps K mg W [d] vs) : ∃ v, vs = [v] ∧ Rep K mg W d v := by
  obtain ⟨v, r, rfl, h1, h2⟩ := h
  cases h2
  exact ⟨v, rfl, h1⟩
theorem reps2 {K : PySem.W.Frag} {mg : Str → Option Value} {W : Wd} {d e : D} {vs : List V} (h : Reps K mg W [d, e] vs) : ∃ v u, vs = [v, u] ∧ Rep K mg W d v ∧ Rep K mg W e u := by
  obtain ⟨v, r, rfl, h1, h2⟩ := h
  obtain ⟨u, rfl, h3⟩ := reps1 h2
  exact ⟨v, u, rfl, h1, h3⟩
theorem reps_erase {K : PySem.W.Frag} {mg : Str → Option Value} {W : Wd} : ∀ {ds : List D} {vs : List V} (k : Nat), Reps K mg W ds vs → Reps K mg W (ds.eraseIdx k) (vs.eraseIdx k)
  | [], _, k, h => by
    cases h
    rfl
  | _ :: _, _, 0, ⟨v, r, e, _, t⟩ => by
    subst e
    exact t
  | _ :: ds, _, k + 1, ⟨v, r, e, h, t⟩ => by
    subst e
    exact ⟨v, _, rfl, h, reps_erase k t⟩
theorem om_ok (f : OM) : OmOk X f := by
  cases f with
  | append =>
    refine ⟨"list.append", rAppend, PySem.F.slot_list_append, PySem.F.type_list_append, mt_append, fun W H a c c' ds d vs Q hc hr e q => ?_⟩
    unfold opM at e
    split at e <;> (try cases e) <;> (try (rename_i z; cases z; done))
    rename_i xs d'
    split at e
    · rename_i hz
      cases e
      obtain ⟨us, hu, ru⟩ := hc
      obtain ⟨v, rfl, rv⟩ := reps1 hr
      exact ⟨⟨us, hu⟩, a, us, v, rfl, rfl, hu, by rw [← ru.length]; exact hz, q .non _ ⟨_, upd_same, ru.append (Reps.one rv)⟩ rfl⟩
    · cases e
  | insert =>
    refine ⟨"list.insert", _, PySem.F.slot_list_insert, PySem.F.type_list_insert, mt_insert, fun W H a c c' ds d vs Q hc hr e q => ?_⟩
    unfold opM at e
    split at e <;> (try cases e) <;> (try (rename_i z; cases z; done))
    rename_i xs i d'
    split at e
    · rename_i hz
      cases e
      obtain ⟨us, hu, ru⟩ := hc
      obtain ⟨v, u, rfl, rv, rw'⟩ := reps2 hr
      cases rv
      exact ⟨⟨us, hu⟩, a, us, _, u, rfl, rfl, hu, by rw [← ru.length]; exact hz.1, (r63_le hz.2).1, (r63_le hz.2).2, q .non _ ⟨_, upd_same, ((ru.take _).append (Reps.one rw')).append (ru.drop _)⟩ rfl⟩
    · cases e
  | pop =>
    refine ⟨"list.pop", rPop, PySem.F.slot_list_pop, PySem.F.type_list_pop, mt_pop, fun W H a c c' ds d vs Q hc hr e q => ?_⟩
    unfold opM at e
    split at e <;> (try cases e) <;> (try (rename_i z; cases z; done))
    rename_i xs
    split at e
    · rename_i d' hz
      cases e
      obtain ⟨us, hu, ru⟩ := hc
      cases hr
      rw [ru.length] at hz
      obtain ⟨v, e1, rv⟩ := ru.get hz
      exact ⟨⟨us, hu⟩, a, us, v, rfl, rfl, hu, e1, q v _ ⟨_, upd_same, ru.dropLast⟩ rv⟩
    · cases e
  | popAt =>
    refine ⟨"list.pop", rPopAt, PySem.F.slot_list_pop, PySem.F.type_list_pop, mt_popAt, fun W H a c c' ds d vs Q hc hr e q => ?_⟩
    unfold opM at e
    split at e <;> (try cases e) <;> (try (rename_i z; cases z; done))
    rename_i xs i
    split at e
    · rename_i hz
      split at e
      · rename_i k hk
        split at e
        · rename_i d' hd
          cases e
          obtain ⟨us, hu, ru⟩ := hc
          obtain ⟨w, rfl, rw'⟩ := reps1 hr
          cases rw'
          rw [ru.length] at hk
          obtain ⟨v, e1, rv⟩ := ru.get hd
          exact ⟨⟨us, hu⟩, a, us, _, _, v, rfl, rfl, hu, (rs63_le hz).1, (rs63_le hz).2, hk, e1, q v _ ⟨_, upd_same, reps_erase k ru⟩ rv⟩
        · cases e
      · cases e
    · cases e
  | reverse =>
    refine ⟨"list.reverse", rReverse, PySem.F.slot_list_reverse, PySem.F.type_list_reverse, mt_reverse, fun W H a c c' ds d vs Q hc hr e q => ?_⟩
    unfold opM at e
    split at e <;> (try cases e) <;> (try (rename_i z; cases z; done))
    obtain ⟨us, hu, ru⟩ := hc
    cases hr
    exact ⟨⟨us, hu⟩, a, us, rfl, rfl, hu, q .non _ ⟨_, upd_same, ru.reverse⟩ rfl⟩
  | extend =>
    refine ⟨"list.extend", fun _ _ _ _ => False, PySem.F.slot_list_extend, PySem.F.type_list_extend, fun pins s σ H x xs v us Q I r1 r2 h => h.elim, fun W H a c c' ds d vs Q hc hr e q => ?_⟩
    unfold opM at e
    split at e <;> (try cases e) <;> (try (rename_i z; cases z; done))
  | clear =>
    refine ⟨"list.clear", rClear, PySem.F.slot_list_clear, PySem.F.type_list_clear, mt_clear, fun W H a c c' ds d vs Q hc hr e q => ?_⟩
    unfold opM at e
    split at e <;> (try cases e) <;> (try (rename_i z; cases z; done))
    obtain ⟨us, hu, ru⟩ := hc
    cases hr
    exact ⟨⟨us, hu⟩, a, us, rfl, rfl, hu, q .non _ ⟨_, upd_same, rfl⟩ rfl⟩
theorem few_ok {cpos : Pos} {e : Expr} {es : List Expr} {env : Env} (n1 : noStar e = true) (n2 : es.all noStar = true) (hf : (e :: es).length < 30) : ((backTo cpos (starEach (e :: es) env)).all (fun x => !x.1) && (backToKw cpos (keywordEach [] env)).all (fun x => x.1.isSome)
      && decide ((e :: es).length + ([] : List Keyword).length + (if ([] : List Keyword).isEmpty then 0 else 1) < 30)) = true := by
  rw [star_all (es := e :: es) (by simp [n1, List.all_eq_true.mp n2]; exact fun x hx => List.all_eq_true.mp n2 x hx)]
  show (true && true && decide ((e :: es).length + 0 + 0 < 30)) = true
  simp at hf ⊢
  omega
theorem isL_ok {K : PySem.W.Frag} {mg : Str → Option Value} {W : Wd} {H : Hp} {s : Sl} {m : Mu} {σ : L2.St} {i : Nat} (h : Holds K mg W s m σ H) (e : isL s i = true) : ∃ a xs, σ[i]? = some (some (.ref a)) ∧ H a = some (.lst xs) := by
  unfold isL at e
  split at e
  · rename_i ds ec
    obtain ⟨a, ea, ow⟩ := h.own i _ ec
    obtain ⟨us, hu, _⟩ := ow.at_
    exact ⟨a, us, ea, hu⟩
  · cases e
/-- the call of a list's method, its receiver a slot -/
theorem pe_om {f : OM} {x : Str} {i : Nat} {es : List Expr} {p apos pos : Pos} {fa : Sl → Mu → R (List D)} (hv : PE X (.Name x p) (tVar i)) (hl : (apos.endLine == pos.line) = true) (hf : es.length < 30) (hst : es.all noStar = true) (ha : PA X es (tL X Wx fa)) (h0 : es = [] → ∀ s m, fa s m = .ok [] m) :
    ∃ t : TE, PE X (.Call (.Attribute (.Name x p) (Str.ofString (omName f)) apos) es [] pos) t ∧
      ∀ (W0 Wl W : Wd) (H0 H : Hp) (s : Sl) (m : Mu) (σ : L2.St) (D : Ends) (k : Dp.D → Sl → Mu → SR) (Q : VK), HoldF X.K X.mg W0 H0 Wl W s m σ H → isL s i = true → OutS X.K X.mg Wx W0 H0 Wl ((fa s m).st s fun ds m1 => chgO i s m1 (fun c => opM f c ds) k) D →
        (∀ (W1 : Wd) (s1 : Sl) (m1 : Mu) (H1 : Hp) (d : Dp.D) (u : V), HoldF X.K X.mg W0 H0 Wl W1 s1 m1 σ H1 → Rep X.K X.mg W1 d u → OutS X.K X.mg Wx W0 H0 Wl (k d s1 m1) D → Q u H1) → t σ H Q := by
  obtain ⟨id, r, sl, ty, hm, hr⟩ := om_ok (X := X) f
  have key : ∀ (W0 Wl W1 : Wd) (H0 H1 : Hp) (s : Sl) (m1 : Mu) (σ : L2.St) (D : Ends) (k : Dp.D → Sl → Mu → SR) (Q : VK) (ds : List Dp.D) (vs : List V), HoldF X.K X.mg W0 H0 Wl W1 s m1 σ H1 → Reps X.K X.mg W1 ds vs → OutS X.K X.mg Wx W0 H0 Wl (chgO i s m1 (fun c => opM f c ds) k) D →
      (∀ (W1 : Wd) (s1 : Sl) (m1 : Mu) (H1 : Hp) (d : Dp.D) (u : V), HoldF X.K X.mg W0 H0 Wl W1 s1 m1 σ H1 → Rep X.K X.mg W1 d u → OutS X.K X.mg Wx W0 H0 Wl (k d s1 m1) D → Q u H1) → ∃ a, σ[i]? = some (some (.ref a)) ∧ r (.ref a) vs H1 Q := by
    intro W0 Wl W1 H0 H1 s m1 σ D k Q ds vs h1 rd o1 q
    obtain ⟨c, a, c', d, e1, e2, hc, ef, hw⟩ := chgO_ok h1 o1
    obtain ⟨_, hq⟩ := hr W1 H1 a c c' ds d vs Q hc rd ef fun u o' hc' ru => by
      obtain ⟨h2, o2⟩ := hw o' hc'
      exact q W1 _ m1 _ d u h2 ru o2
    exact ⟨a, e2, hq⟩
  cases es with
  | nil =>
    refine ⟨_, pe_bm0 PySem.F.plainAttrs_list sl ty hm hv (base_eq rfl) hl, fun W0 Wl W H0 H s m σ D k Q h hil o q => ?_⟩
    rw [h0 rfl] at o
    obtain ⟨a, xs, ea, hx⟩ := isL_ok h.h hil
    obtain ⟨a', ea', hq⟩ := key W0 Wl W H0 H s m σ D k Q [] [] h Reps.nil o q
    rw [ea] at ea'
    cases ea'
    exact ⟨.ref a, ea, .inl ⟨rfl, xs, SqL.of hx⟩, hq⟩
  | cons e es =>
    obtain ⟨n1, n2⟩ := Bool.and_eq_true_iff.mp (show (noStar e && es.all noStar) = true from hst)
    refine ⟨_, pe_bm PySem.F.plainAttrs_list sl ty hm hv ha (base_eq rfl) (few_ok n1 n2 hf) hl (star_cons n1) (star_any n2), fun W0 Wl W H0 H s m σ D k Q h hil o q => ?_⟩
    obtain ⟨a, xs, ea, hx⟩ := isL_ok h.h hil
    refine ⟨.ref a, ea, .inl ⟨rfl, xs, SqL.of hx⟩, st_run (A := LsAt X.K X.mg) fa h o fun ds m1 W1 vs H1 _ h1 p1 rd o1 => ?_⟩
    obtain ⟨a', ea', hq⟩ := key W0 Wl W1 H0 H1 s m1 σ D k Q ds vs h1 rd o1 q
    rw [ea] at ea'
    cases ea'
    exact hq
/-- {k: v}, the key a tuple: the new dict stands empty while the pair is made -/
def tDset (tk tv : TE) : TE := fun σ H Q => ∀ p, H p = none → tk σ (upd H p (.dT [])) fun x H1 => tv σ H1 fun y H2 => ∃ b k, x = .ref b ∧ H2 p = some (.dT []) ∧ H2 b = some (.tup (k.map kV)) ∧ Q (.ref p) (upd H2 p (.dT [(k, y)]))
theorem pe_dset {k v : Expr} {pos : Pos} {tk tv : TE} (hu : X.A.units + 1 < cLine) (hk : PE X k tk) (hv : PE X v tv) : PE X (.Dict [some k] [v] pos) (tDset tk tv) := by
  refine ⟨fun pins s σ H Q I q => ?_⟩
  have hn := I.hok.fresh (Nat.le_refl s.heap.objs.size)
  have I1 := I.laid (a := s.heap.objs.size) (o := .dT []) (h' := s.heap.push { cls := .type "dict", data := .dict #[] }) (t' := s.toks) (fun _ _ q => Heap.get?_push_of_some _ q) (Nat.le_refl _) (dt_empty s.heap I.big)
  refine wpAny_Dict_any rfl rfl (by simp) (by simp) (pairTrees_cons_walk (thn (hk.run pins _ σ _ _ I1 (q _ hn)) fun u s1 ⟨x, H1, I2, rx, q1⟩ => thn (hv.run pins s1 σ H1 _ I2 q1) fun w2 s2 ⟨y, H2, I3, ry, q2⟩ => pairTrees_nil_walk ?_))
  obtain ⟨b, k, rfl, ep, eb, q3⟩ := q2
  cases (show u = Value.ref b from rx)
  obtain ⟨z, hd, xs, rel, dd⟩ := dt_of I3.hok ep
  cases rel
  unfold storeAll
  rw [List.forIn_cons]
  refine wpAny_bind (wpAny_bind (wpAny_dictSet_heap (hsz := Nat.zero_le _) (show X.A.units < cLine by omega) (key_of I3.hok eb) dd fun h' dd' hs => wpAny_pure ?_))
  dsimp only
  rw [List.forIn_nil]
  refine wpAny_pure ⟨.ref s.heap.objs.size, _, ?_, rfl, q3⟩
  obtain ⟨r, es, ep', hq, h2, h3, h4, _, h5⟩ := dd'
  refine d_write I3 (by rw [ep]; exact True.intro) hs ⟨r, hq⟩ ⟨(show 1 ≤ sizeLine from by decide), hd, _, ((KT.put (kvs := []) .nil k eb ry).keeps fun c ys ec => ?_), r, es, ep', hq, h2, h3, h4, h5⟩
  rw [upd_ne (ne_of ec ep (fun z => nomatch z))]
  exact ec
theorem de_dset (hu : X.A.units + 200 < cLine) {k v : Expr} {pos : Pos} {fk fv : Sl → Mu → R SV} (hk : PE X k (tS X Wx fk)) (hv : PE X v (tS X Wx fv)) :
    PE X (.Dict [some k] [v] pos) (tS X Wx fun s m => (fk s m).bind fun y m1 => (fv s m1).bind fun z m2 => (match keyT y.fz with
      | some key => .ok (.own (.dt [key] [z.fz])) m2
      | none => .bad)) := by
  refine pe_imp (pe_dset (by omega) hk hv) fun σ H Q ⟨W, s, m, hs, out⟩ p hp => ?_
  obtain ⟨x0, p0, n1, n2⟩ := hs.toSt0.made hp (.dT [])
  have out : OutG X.K X.mg (SvAt X.K X.mg) Wx W H σ ((fk s m).bind fun y m1 => (fv s m1).bind fun z m2 => (match keyT y.fz with
      | some key => .ok (.own (.dt [key] [z.fz])) m2
      | none => .bad)) Q := out
  have hs0 := hs.step p0 x0
  refine ⟨W, s, m, hs0, ?_⟩
  cases ek : fk s m with
  | bad => rw [ek] at out; exact out.elim
  | ex x m1 => rw [ek] at out; exact fun W' d H' x' q e => out W' d H' x' (p0.trans x0 q) e
  | ok yv m1 =>
    rw [ek] at out
    have out : OutG X.K X.mg (SvAt X.K X.mg) Wx W H σ ((fv s m1).bind fun z m2 => (match keyT yv.fz with
      | some key => .ok (.own (.dt [key] [z.fz])) m2
      | none => .bad)) Q := out
    intro W1 v1 H1 x1 p1 av
    obtain ⟨W2, h2, p2, r2, _⟩ := freeze_new hs0 p1 (hs0.step p1 x1) av
    refine ⟨W2, s, m1, h2, ?_⟩
    cases ev : fv s m1 with
    | bad => rw [ev] at out; exact out.elim
    | ex x m2 => rw [ev] at out; exact fun W' d H' x' q e => out W' d H' x' ((p0.trans x0 p2).trans h2.toSt0 q) e
    | ok zv m2 =>
      rw [ev] at out
      have out : OutG X.K X.mg (SvAt X.K X.mg) Wx W H σ (match keyT yv.fz with
        | some key => .ok (.own (.dt [key] [zv.fz])) m2
        | none => .bad) Q := out
      intro W3 v2 H2 x3 p3 av2
      obtain ⟨W4, h4, p4, r4, _⟩ := freeze_new h2 p3 (h2.step p3 x3) av2
      cases e2 : keyT yv.fz with
      | none => rw [e2] at out; exact out.elim
      | some key =>
        rw [e2] at out
        have out : OutG X.K X.mg (SvAt X.K X.mg) Wx W H σ (.ok (.own (.dt [key] [zv.fz])) m2) Q := out
        obtain ⟨b, rfl, hb⟩ := keyT_v (Rep.mono p4.le _ _ r2) e2
        have k1 := p2.keep p _ upd_same n2
        have w1 := p2.nofz p _ upd_same n1 n2 (fun _ q => nomatch q)
        have w2 := p2.nth upd_same n2
        have k3 := p4.keep p _ k1 w2
        have w3 := p4.nofz p _ k1 w1 w2 (fun _ q => nomatch q)
        have w4 := p4.nth k1 w2
        refine ⟨b, key, rfl, k3, h4.toSt0.sub _ _ hb, ?_⟩
        exact out.fin2 (h4.toSt0.write w3 w4 _) (((p0.trans x0 p2).trans h2.toSt0 p4).updFresh hp _) ⟨p, rfl, ⟨⟨[v2], upd_same, rfl, Reps.one r4⟩, w3, w4⟩, hp⟩
/-- one element of a shared list taken out -/
theorem de_mpopI {o e : Expr} {apos cpos : Pos} {fo fe : Sl → Mu → R SV} (ho : PE X o (tS X Wx fo)) (he : PE X e (tS X Wx fe)) (h1 : noSup o = true) (n1 : noStar e = true) (hl : (apos.endLine == cpos.line) = true) :
    PE X (.Call (.Attribute o "pop" apos) [e] [] cpos) (tS X Wx fun s m => (fo s m).bind fun x m1 => if isML m1 x.fz = true then (fe s m1).bind fun y m2 => (match x.fz, y.fz with
      | .ref i, .int j => (match m2[i]? with
        | some (.lst ds) => if rs63 j = true then (match seqIndex? j ds.length with
          | some k => (match ds[k]? with
            | some d => .ok (.val d) (m2.set i (.lst (ds.eraseIdx k)))
            | none => .bad)
          | none => .bad) else .bad
        | _ => .bad)
      | _, _ => .bad) else .bad) := by
  refine pe_imp (pe_bm PySem.F.plainAttrs_list PySem.F.slot_list_pop (by first | rfl | kernel_rfl | (show builtinType _ = _; rw [builtinType_eq_fast]; kernel_rfl)) (mt_popAt (X := X)) ho (pa_cons he pa_nil (star_cons n1)) (base_eq h1) (few_ok n1 rfl (by simp)) hl (star_cons n1) (star_any rfl)) fun σ H Q ⟨W, s, m, hs, out⟩ => ?_
  refine runz rb_sv hs out fun xv m1 W1 v H1 h1 p1 av o1 => ?_
  split at o1
  · rename_i e0
    generalize xv.fz = x at o1 e0 av
    cases x <;> try cases e0
    rename_i i
    obtain ⟨a, rfl, ha⟩ := av
    unfold isML at e0
    dsimp only at e0
    split at e0
    · rename_i ds0 em
      obtain ⟨vs0, hv0, rv0⟩ := h1.cell i a _ ha em
      refine ⟨.inl ⟨rfl, vs0, SqL.of hv0⟩, ?_⟩
      refine runz rb_sv h1 o1 fun yv m2 W2 u H2 h2 p2 bv o2 => ?_
      generalize yv.fz = y at o2 bv
      cases y <;> try exact o2.elim
      rename_i j
      cases bv
      dsimp only at o2
      split at o2
      · rename_i ds e2
        split at o2
        · rename_i hz
          split at o2
          · rename_i k hk
            split at o2
            · rename_i d hd
              have ha2 : W2.th[i]? = some a := by
                obtain ⟨more, em2, _⟩ := p2.th
                rw [em2, List.getElem?_append_left (List.getElem?_eq_some_iff.mp ha).1]
                exact ha
              obtain ⟨vs, hv, rv⟩ := h2.cell i a _ ha2 e2
              rw [rv.length] at hk
              obtain ⟨w, e4, rw'⟩ := rv.get hd
              refine ⟨a, vs, j, k, w, rfl, rfl, hv, (rs63_le hz).1, (rs63_le hz).2, hk, e4, ?_⟩
              obtain ⟨x2, p3⟩ := h2.toSt0.setCell (c := .lst (ds.eraseIdx k)) (o := .lst (vs.eraseIdx k)) ha2 ⟨vs.eraseIdx k, upd_same, reps_erase k rv⟩
              exact o2.fin2 x2 p3 rw'
            · exact o2.elim
          · exact o2.elim
        · exact o2.elim
      · exact o2.elim
    · cases e0
  · exact o1.elim
theorem d_om {f : OM} {x : Str} {i : Nat} {es : List Expr} {p apos pos pos2 : Pos} {fa : Sl → Mu → R (List D)} (hv : PE X (.Name x p) (tVar i)) (hl : (apos.endLine == pos.line) = true) (hf : es.length < 30) (hst : es.all noStar = true) (ha : PA X es (tL X Wx fa)) (h0 : es = [] → ∀ s m, fa s m = .ok [] m) :
    PS X (.Expr (.Call (.Attribute (.Name x p) (Str.ofString (omName f)) apos) es [] pos) pos2) (tD X Wx W0 H0 fun s m => if isL s i = true then (fa s m).st s fun ds m1 => chgO i s m1 (fun c => opM f c ds) fun _ s1 m2 => .nx s1 m2 else .bad) := by
  obtain ⟨t, ht, k⟩ := pe_om (f := f) hv hl hf hst ha h0
  refine ps_imp (ps_expr ht rfl) fun D σ H ⟨Wl, W, s, m, h, o⟩ => ?_
  dsimp only at o
  split at o
  · rename_i hil
    exact k W0 Wl W H0 H s m σ D _ _ h hil o fun W1 s1 m1 H1 d u h1 _ o1 => o1 W1 σ H1 h1
  · exact o.elim
theorem d_omr {f : OM} {x y : Str} {i j : Nat} {es : List Expr} {p py apos pos pos2 : Pos} {fa : Sl → Mu → R (List D)} (hN : X.N.Nodup) (hy : X.N[j]? = some y) (hyl : Loc X.env.scope y) (hfn : X.fn y = true ∨ X.env.scope.names.lookup y = some .local) (hv : PE X (.Name x p) (tVar i)) (hl : (apos.endLine == pos.line) = true) (hf : es.length < 30) (hst : es.all noStar = true) (ha : PA X es (tL X Wx fa)) (h0 : es = [] → ∀ s m, fa s m = .ok [] m) :
    PS X (.Assign [.Name y py] (.Call (.Attribute (.Name x p) (Str.ofString (omName f)) apos) es [] pos) pos2) (tD X Wx W0 H0 fun s m => if isL s i = true then (fa s m).st s fun ds m1 => chgO i s m1 (fun c => opM f c ds) fun d s1 m2 => .nx (s1.set j (some (.val d))) m2 else .bad) := by
  obtain ⟨t, ht, k⟩ := pe_om (f := f) hv hl hf hst ha h0
  refine ps_imp (ps_set hN hy hyl ht rfl hfn) fun D σ H ⟨Wl, W, s, m, h, o⟩ => ?_
  dsimp only at o
  split at o
  · rename_i hil
    exact k W0 Wl W H0 H s m σ D _ _ h hil o fun W1 s1 m1 H1 d u h1 rd o1 => o1 W1 _ H1 (h1.put j rd)
  · exact o.elim
/-! ### items, fields -/
theorem zip_put {κ : Type} [DecidableEq κ] (k : κ) (v : V) : ∀ (ks : List κ) (vs : List V), ks.length = vs.length → (putKN k ks).zip (putKD k v ks vs) = putK (ks.zip vs) k v := by
  intro ks vs hl
  have hany : (ks.any fun g => decide (g = k)) = ((ks.zip vs).any fun kv => decide (kv.1 = k)) := by
    induction ks generalizing vs with
    | nil => rfl
    | cons g ks ih =>
      cases vs with
      | nil => simp at hl
      | cons u vs =>
        rw [List.zip_cons_cons, List.any_cons, List.any_cons, ih vs (by simpa using hl)]
  unfold putKN putKD putK
  rw [hany]
  by_cases h : ((ks.zip vs).any fun kv => decide (kv.1 = k)) = true
  · rw [if_pos h, if_pos h, if_pos h]
    clear h hany
    induction ks generalizing vs with
    | nil => rfl
    | cons g ks ih =>
      cases vs with
      | nil => simp at hl
      | cons u vs =>
        rw [List.zip_cons_cons, List.map_cons, List.map_cons, List.zip_cons_cons, ih vs (by simpa using hl)]
        by_cases hg : g = k
        · simp [hg]
        · simp [hg]
  · rw [if_neg h, if_neg h, if_neg h, List.zip_append hl]
    rfl
theorem putKN_len {κ α : Type} [DecidableEq κ] (k : κ) (d : α) {ks : List κ} {ds : List α} (hl : ks.length = ds.length) : (putKN k ks).length = (putKD k d ks ds).length := by
  unfold putKN putKD
  split
  · rw [List.length_map, List.length_zip, hl, Nat.min_self]
  · rw [List.length_append, List.length_append, hl]
    rfl
theorem reps_put {κ : Type} [DecidableEq κ] {K : PySem.W.Frag} {mg : Str → Option Value} {W : Wd} (k : κ) {d : D} {v : V} (rv : Rep K mg W d v) {ks : List κ} {ds : List D} {vs : List V} (hl : ks.length = ds.length) (r : Reps K mg W ds vs) : Reps K mg W (putKD k d ks ds) (putKD k v ks vs) := by
  unfold putKD
  split
  · rename_i h
    clear h
    induction ks generalizing ds vs with
    | nil => rfl
    | cons g ks ih =>
      cases ds with
      | nil => simp at hl
      | cons d' ds =>
        obtain ⟨u, t, rfl, h1, h2⟩ := r
        have ih' := ih (by simpa using hl) h2
        rw [List.zip_cons_cons, List.zip_cons_cons, List.map_cons, List.map_cons]
        by_cases hg : g = k
        · simp only [hg, if_true]
          exact Reps.cons rv ih'
        · simp only [hg, if_false]
          exact Reps.cons h1 ih'
  · exact r.append (Reps.one rv)
def rSetA : V → V → V → Hp → (Hp → Prop) → Prop := fun o i v H Q => rSetL o i v H Q ∨ ∃ a H', o = V.ref a ∧ DPut H a i v H' ∧ Q H'
theorem set_any (hu : X.A.units + 1 < cLine) : PSet X rSetA := by
  intro pins s σ H o i v ov iv u Q I ro ri rv h
  rcases h with h | ⟨a, H', rfl, g, q⟩
  · exact set_list pins s σ H o i v ov iv u Q I ro ri rv h
  · obtain rfl : ov = Value.ref a := ro
    exact d_setItem hu I g ri rv fun s4 I4 => ⟨H', I4, q⟩
def noSlc : Expr → Bool
  | .Slice .. => false
  | _ => true
theorem isO_ok {K : PySem.W.Frag} {mg : Str → Option Value} {W : Wd} {H : Hp} {s : Sl} {m : Mu} {σ : L2.St} {i : Nat} (h : Holds K mg W s m σ H) (e : isO s i = true) : ∃ a, σ[i]? = some (some (.ref a)) := by
  unfold isO at e
  split at e
  · rename_i c ec
    obtain ⟨a, ea, _⟩ := h.own i _ ec
    exact ⟨a, ea⟩
  · cases e
theorem map_unit {α : Type} {o : Option α} {p : α × Unit} (h : o.map (fun c' => (c', ())) = some p) : o = some p.1 := by
  obtain ⟨c, e1, e2⟩ := Option.map_eq_some_iff.mp h
  subst e2
  exact e1
theorem opSet_ok {K : PySem.W.Frag} {mg : Str → Option Value} {W : Wd} {H : Hp} {a : Addr} {c c' : Cell} {y x : D} {vy vx : V} {Q : Hp → Prop} (sub : Same W.Hf H) (hc : CellAt K mg W H a c) (ry : Rep K mg W y vy) (rx : Rep K mg W x vx) (e : opSet c y x = some c') (q : ∀ o', CellAt K mg W (upd H a o') a c' → Q (upd H a o')) : rSetA (.ref a) vy vx H Q := by
  cases c with
  | lst ds =>
    cases y <;> try cases e
    rename_i i
    obtain ⟨us, hu, ru⟩ := hc
    cases ry
    have e : (match ixN ds.length i with | some j => some (Cell.lst (ds.set j x)) | none => none) = some c' := e
    cases ej : ixN ds.length i with
    | none => rw [ej] at e; cases e
    | some j =>
      rw [ej] at e
      cases e
      exact .inl ⟨a, us, i, j, rfl, rfl, hu, by rw [← ru.length]; exact ej, q _ ⟨_, upd_same, ru.set j rx⟩⟩
  | dk ks ds =>
    obtain ⟨us, hu, hl, ru⟩ := hc
    cases y <;> try cases e
    · rename_i i
      cases ry
      have e : (if ks.length < sizeLine then some (Cell.dk (putKN (.inl i) ks) (putKD (.inl i) x ks ds)) else none) = some c' := e
      split at e
      · rename_i hz
        cases e
        have hl2 : (ks.zip us).length < sizeLine := by rw [List.length_zip, ← ru.length, hl, Nat.min_self, ← hl]; exact hz
        refine .inr ⟨a, _, rfl, DPut.k (k := .inl i) hu hl2, q _ ⟨putKD (.inl i) vx ks us, ?_, putKN_len _ _ hl, reps_put _ rx hl ru⟩⟩
        rw [upd_same, zip_put _ _ _ _ (hl.trans ru.length)]
      · cases e
    · rename_i i
      cases ry
      have e : (if ks.length < sizeLine then some (Cell.dk (putKN (.inr i) ks) (putKD (.inr i) x ks ds)) else none) = some c' := e
      split at e
      · rename_i hz
        cases e
        have hl2 : (ks.zip us).length < sizeLine := by rw [List.length_zip, ← ru.length, hl, Nat.min_self, ← hl]; exact hz
        refine .inr ⟨a, _, rfl, DPut.k (k := .inr i) hu hl2, q _ ⟨putKD (.inr i) vx ks us, ?_, putKN_len _ _ hl, reps_put _ rx hl ru⟩⟩
        rw [upd_same, zip_put _ _ _ _ (hl.trans ru.length)]
      · cases e
  | dt ks ds =>
    obtain ⟨us, hu, hl, ru⟩ := hc
    cases y <;> try cases e
    rename_i ys
    have e : (match keysD ys with | some k => if ks.length < sizeLine then some (Cell.dt (putKN k ks) (putKD k x ks ds)) else none | none => none) = some c' := e
    cases ek : keysD ys with
    | none => rw [ek] at e; cases e
    | some k =>
      rw [ek] at e
      dsimp only at e
      obtain ⟨b, ws, rfl, hb, rr⟩ := ry
      have eb := keysD_v rr ek
      subst eb
      split at e
      · rename_i hz
        cases e
        have hl2 : (ks.zip us).length < sizeLine := by rw [List.length_zip, ← ru.length, hl, Nat.min_self, ← hl]; exact hz
        refine .inr ⟨a, _, rfl, DPut.t (k := k) hu (sub _ _ hb) hl2, q _ ⟨putKD k vx ks us, ?_, putKN_len _ _ hl, reps_put _ rx hl ru⟩⟩
        rw [upd_same, zip_put _ _ _ _ (hl.trans ru.length)]
      · cases e
  | ins c ns ds => cases y <;> cases e
theorem d_seti (hu : X.A.units + 200 < cLine) {x : Str} {i : Nat} {b e : Expr} {p pos pos2 : Pos} {fb fe : Sl → Mu → R SV} (hv : PE X (.Name x p) (tVar i)) (hb : PE X b (tS X Wx fb)) (hn : noSlc b = true) (he : PE X e (tS X Wx fe)) :
    PS X (.Assign [.Subscript (.Name x p) b pos] e pos2) (tD X Wx W0 H0 fun s m => if isO s i = true then (fe s m).st s fun x m1 => (fb s m1).st s fun y m2 => chgO i s m2 (fun c => (opSet c y.fz x.fz).map fun c' => (c', ())) fun _ s1 m3 => .nx s1 m3 else .bad) := by
  have hg : PG X (.Subscript (.Name x p) b pos) (gSub (tVar i) (tS X Wx fb) rSetA) := pg_sub hv hb (set_any (by omega)) (by intro v; cases b <;> first | rfl | cases hn)
  refine ps_imp (ps_asg he hg (by cases e <;> rfl) (by cases e <;> rfl) rfl) fun D σ H ⟨Wl, W, s, m, h, o⟩ => ?_
  dsimp only at o
  split at o
  · rename_i hio
    obtain ⟨a, ea⟩ := isO_ok h.h hio
    refine st_runz fe h o fun xv m1 W1 v H1 h1 p1 rx o1 => ⟨.ref a, ea, st_runz fb h1 o1 fun yv m2 W2 u H2 h2 p2 ry o2 => ?_⟩
    obtain ⟨c, a', c', r, e1, e2, hc, ef, hw⟩ := chgO_ok h2 o2
    rw [ea] at e2
    cases e2
    refine opSet_ok h2.h.toSt0.sub hc ry (Rep.mono p2.le _ _ rx) (map_unit ef) fun o' hc' => ?_
    obtain ⟨h3, o3⟩ := hw o' hc'
    exact o3 W2 σ _ h3
  · exact o.elim
theorem zip_putF {f : Str} {v : V} : ∀ {ns : List Str} {d : D} {ds : List D} {vs : List V} {K : PySem.W.Frag} {mg : Str → Option Value} {W : Wd}, ns.length = ds.length → Reps K mg W ds vs → Rep K mg W d v →
    ∃ ws, putF f v (ns.zip vs) = (putFN f ns).zip ws ∧ Reps K mg W (putFD f d ns ds) ws ∧ (putFN f ns).length = (putFD f d ns ds).length
  | [], d, [], _, K, mg, W, _, h, rv => by
    cases h
    exact ⟨[v], rfl, Reps.one rv, rfl⟩
  | g :: ns, d, d' :: ds, _, K, mg, W, hl, ⟨u, r, e, h1, h2⟩, rv => by
    subst e
    by_cases hg : g = f
    · refine ⟨v :: r, ?_, ?_, ?_⟩
      · show (if g = f then (g, v) :: ns.zip r else (g, u) :: putF f v (ns.zip r)) = (if g = f then g :: ns else g :: putFN f ns).zip (v :: r)
        rw [if_pos hg, if_pos hg]
        rfl
      · show Reps K mg W (if g = f then d :: ds else d' :: putFD f d ns ds) (v :: r)
        rw [if_pos hg]
        exact Reps.cons rv h2
      · show (if g = f then g :: ns else g :: putFN f ns).length = (if g = f then d :: ds else d' :: putFD f d ns ds).length
        rw [if_pos hg, if_pos hg]
        simpa using hl
    · obtain ⟨ws, e1, r1, l1⟩ := zip_putF (f := f) (v := v) (ns := ns) (d := d) (by simpa using hl) h2 rv
      refine ⟨u :: ws, ?_, ?_, ?_⟩
      · show (if g = f then (g, v) :: ns.zip r else (g, u) :: putF f v (ns.zip r)) = (if g = f then g :: ns else g :: putFN f ns).zip (u :: ws)
        rw [if_neg hg, if_neg hg, e1]
        rfl
      · show Reps K mg W (if g = f then d :: ds else d' :: putFD f d ns ds) (u :: ws)
        rw [if_neg hg]
        exact Reps.cons h1 r1
      · show (if g = f then g :: ns else g :: putFN f ns).length = (if g = f then d :: ds else d' :: putFD f d ns ds).length
        rw [if_neg hg, if_neg hg]
        simpa using l1
  | [], _, _ :: _, _, _, _, _, hl, _, _ => by simp at hl
  | _ :: _, _, [], _, _, _, _, hl, _, _ => by simp at hl
theorem d_setf {G : Prog} {n : Nat} (xk : Xok G n X Wx) {x f : Str} {i : Nat} {e : Expr} {p pos pos2 : Pos} {fe : Sl → Mu → R SV} (hv : PE X (.Name x p) (tVar i)) (he : PE X e (tS X Wx fe)) :
    PS X (.Assign [.Attribute (.Name x p) f pos] e pos2) (tD X Wx W0 H0 fun s m => (fe s m).st s fun x m1 => chg i s m1 (fun c => (opFld G.flds f x.fz c).map fun c' => (c', ())) fun _ s1 m2 => .nx s1 m2) := by
  refine ps_imp (ps_fld hv he (by cases e <;> rfl)) fun D σ H ⟨Wl, W, s, m, h, o⟩ => st_runz fe h o fun xv m1 W1 v H1 h1 p1 rx o1 => ?_
  obtain ⟨c, a, c', r, ea, hc, ef, hw⟩ := chg_ok h1 o1
  have ef' := map_unit ef
  cases c with
  | ins cn ns ds =>
    obtain ⟨dx, us, hu, hl, ru⟩ := hc
    have ef2 : (match G.flds.lookup cn with
      | some fl => if f ∈ fl ∧ ns.length < 1000 then some (Cell.ins cn (putFN f ns) (putFD f xv.fz ns ds)) else none
      | none => none) = some c' := ef'
    cases hfl : G.flds.lookup cn with
    | none => rw [hfl] at ef2; cases ef2
    | some fl =>
      rw [hfl] at ef2
      dsimp only at ef2
      split at ef2
      · rename_i hff
        obtain ⟨cl, na⟩ := xk.fx.fld _ (lookup_str hfl)
        have ec := Option.some.inj ef2
        obtain ⟨ws, e1, r1, l1⟩ := zip_putF (f := f) (v := v) (d := xv.fz) hl ru rx
        refine ⟨.ref a, ea, a, _, dx, _, rfl, hu, cl, na f hff.1, by rw [List.length_zip]; have := hff.2; omega, ?_⟩
        obtain ⟨s', m', h2, o2⟩ := hw (.ins (He.ga X.K cn) dx (putF f v (ns.zip us))) (by rw [← ec]; exact ⟨dx, ws, by rw [upd_same, e1], l1, r1⟩)
        exact o2 W1 σ _ h2
      · cases ef2
  | _ => cases ef'
theorem d_aug {x : Str} {i : Nat} {op : BO} {e : Expr} {p pos : Pos} {fe : Sl → Mu → R SV} (hN : X.N.Nodup) (hx : X.N[i]? = some x) (hl : Loc X.env.scope x) (hf : X.fn x = true ∨ X.env.scope.names.lookup x = some .local) (he : PE X e (tS X Wx fe)) :
    (op = .add ∨ op = .sub) → PS X (.AugAssign (.Name x p) (boOp op) e pos) (tD X Wx W0 H0 fun s m => match s[i]? with
    | some (some (.val (.int a))) => (fe s m).st s fun y m1 => (match op, y.fz with
      | .add, .int b => .nx (s.set i (some (.val (.int (a + b))))) m1
      | .sub, .int b => .nx (s.set i (some (.val (.int (a - b))))) m1
      | _, _ => .bad)
    | _ => .bad) := by
  intro hop
  rcases hop with rfl | rfl
  · refine ps_imp (ps_aug hN hx hl he ip_add hf) fun D σ H ⟨Wl, W, s, m, h, o⟩ => ?_
    dsimp only at o
    split at o
    · rename_i a ea
      obtain ⟨v, ev, rv⟩ := h.h.slot i _ ea
      cases rv
      refine ⟨.int a, ev, st_runz fe h o fun yv m1 W1 v H1 h1 p1 ry o1 => ?_⟩
      generalize yv.fz = y at ry o1
      cases y <;> try exact o1.elim
      cases ry
      exact ⟨a, _, rfl, rfl, o1 W1 _ H1 (h1.put i rfl)⟩
    · exact o.elim
  · refine ps_imp (ps_aug hN hx hl he ip_sub hf) fun D σ H ⟨Wl, W, s, m, h, o⟩ => ?_
    dsimp only at o
    split at o
    · rename_i a ea
      obtain ⟨v, ev, rv⟩ := h.h.slot i _ ea
      cases rv
      refine ⟨.int a, ev, st_runz fe h o fun yv m1 W1 v H1 h1 p1 ry o1 => ?_⟩
      generalize yv.fz = y at ry o1
      cases y <;> try exact o1.elim
      cases ry
      exact ⟨a, _, rfl, rfl, o1 W1 _ H1 (h1.put i rfl)⟩
    · exact o.elim
/-! ### loops -/
theorem d_whl (hp : PassesOwn (model X.prog X.w) X.A X.env X.xe) {c : Expr} {body : List Stmt} {pos : Pos} {k : Nat} {fg : List Nat} {fc : Sl → Mu → R Bool} {fb : Sl → Mu → SR} (hc : PT X c (tT X Wx fc)) (hb : PSs X body (tD X Wx W0 H0 fb)) :
    PS X (.While c body [] pos) (tD X Wx W0 H0 fun s m => whlL fg fc fb k s m) := by
  refine ps_imp (ps_while hp hc hb) fun D σ H ⟨Wl, W, s, m, h, o⟩ => ?_
  refine ⟨fun j σ H => ∃ W s m, HoldF X.K X.mg W0 H0 Wl W s m σ H ∧ OutS X.K X.mg Wx W0 H0 Wl (whlL fg fc fb j s m) D, ⟨k, W, s, m, h, o⟩, ?_⟩
  rintro j σ H ⟨W, s, m, h, o⟩
  cases j with
  | zero => exact o.elim
  | succ j =>
    refine st_run fc h o fun t m1 W1 t' H1 _ h1 p1 et o1 => ?_
    obtain rfl : t = t' := et
    cases t with
    | false => exact o1 W1 σ H1 h1
    | true =>
      rw [if_pos rfl] at o1 ⊢
      refine ⟨fun σ H => ∃ W s m, HoldF X.K X.mg W0 H0 Wl W s m σ H ∧ OutS X.K X.mg Wx W0 H0 Wl (whlL fg fc fb j s m) D, fun σ' H' q => ⟨j, Nat.lt_succ_self j, q⟩, Wl, W1, s, m1, h1, ?_⟩
      revert o1
      cases fb s m1 with
      | nx s1 m2 => exact fun o1 W2 σ2 H2 h2 => ⟨W2, _, m2, h2.forget fg, o1⟩
      | ct s1 m2 => exact fun o1 W2 σ2 H2 h2 => ⟨W2, _, m2, h2.forget fg, o1⟩
      | bk s1 m2 => exact fun o1 W2 σ2 H2 h2 => o1 W2 σ2 H2 (h2.forget fg)
      | rt v m2 => exact id
      | ex x s1 m2 => exact id
      | bad => exact id
theorem d_for (hp : PassesOwn (model X.prog X.w) X.A X.env X.xe) (hc : X.calm = true) {tg iter : Expr} {body : List Stmt} {pos : Pos} {t : T} {fg : List Nat} {fi : Sl → Mu → R (List D)} {fb : Sl → Mu → SR} (hi : PI X tg iter (tI X Wx fi)) (hg : PG X tg (tGT X.K t)) (hb : PSs X body (tD X Wx W0 H0 fb)) (hs : ∀ x, foldedSetIterable iter X.env x = pure x) :
    PS X (.For tg iter body [] pos) (tD X Wx W0 H0 fun s m => (fi s m).st s fun ds m1 => forL fg (fun d s1 m2 => match bindT s1 t d with | some s2 => fb s2 m2 | none => .bad) ds s m1) := by
  refine ps_imp (ps_for hp hc hi hg hb hs) fun D σ H ⟨Wl, W, s, m, h, o⟩ => st_run fi h o fun ds m1 W1 J H1 _ h1 p1 it o1 => ?_
  refine ⟨fun i n σ H => n = ds.length - i ∧ i ≤ ds.length ∧ ∃ W s m, HoldF X.K X.mg W0 H0 Wl W s m σ H ∧ Le W1 W ∧ OutS X.K X.mg Wx W0 H0 Wl (forL fg (fun d s1 m2 => match bindT s1 t d with | some s2 => fb s2 m2 | none => .bad) (ds.drop i) s m) D, ⟨_, rfl, Nat.zero_le _, W1, s, m1, h1, Le.refl W1, o1⟩, ?_⟩
  rintro i n σ H ⟨rfl, hi, W2, s2, m2, h2, l2, o2⟩
  by_cases hlt : i < ds.length
  · refine .inr ⟨it.go W2 m2 H i l2 h2.h.toSt0 hlt, fun σ H => i + 1 ≤ ds.length ∧ ∃ W s m, HoldF X.K X.mg W0 H0 Wl W s m σ H ∧ Le W1 W ∧ OutS X.K X.mg Wx W0 H0 Wl (forL fg (fun d s1 m2 => match bindT s1 t d with | some s2 => fb s2 m2 | none => .bad) (ds.drop (i + 1)) s m) D,
      fun σ' H' q => ⟨ds.length - (i + 1), by omega, rfl, q⟩, fun x H' y => ?_⟩
    obtain ⟨W3, d, hd, x3, p3, rd⟩ := it.yld W2 m2 H i x H' l2 h2.h.toSt0 hlt y
    have ed : ds.drop i = d :: ds.drop (i + 1) := by
      rw [List.drop_eq_getElem_cons hlt]
      have e := hd
      rw [List.getElem?_eq_getElem hlt] at e
      cases e
      rfl
    rw [ed] at o2
    have h3 := h2.step p3 x3
    have l3 : Le W1 W3 := l2.trans p3.le
    unfold forL at o2
    cases eb : bindT s2 t d with
    | none => rw [eb] at o2; exact o2.elim
    | some s3 =>
      rw [eb] at o2
      refine bind_s h3 rd eb fun σ4 h4 => ⟨W3, W3, s3, m2, ⟨h4.h, h4.st, h4.of, Le.refl W3⟩, ?_⟩
      have lw : Le Wl W3 := h4.le
      revert o2
      dsimp only
      cases fb s3 m2 with
      | nx s5 m5 => exact fun o2 W5 σ5 H5 h5 => ⟨hlt, W5, _, m5, ⟨(h5.forget fg).h, h5.st, (h5.forget fg).of, lw.trans h5.le⟩, l3.trans h5.le, o2⟩
      | ct s5 m5 => exact fun o2 W5 σ5 H5 h5 => ⟨hlt, W5, _, m5, ⟨(h5.forget fg).h, h5.st, (h5.forget fg).of, lw.trans h5.le⟩, l3.trans h5.le, o2⟩
      | bk s5 m5 => exact fun o2 W5 σ5 H5 h5 => o2 W5 σ5 H5 ⟨(h5.forget fg).h, h5.st, (h5.forget fg).of, lw.trans h5.le⟩
      | rt v m5 => exact fun o2 => o2
      | ex x s5 m5 => exact fun o2 W5 σ5 d H5 h5 ea => o2 W5 σ5 d H5 ⟨h5.h, h5.st, h5.of, lw.trans h5.le⟩ ea
      | bad => exact fun o2 => o2
  · have e : i = ds.length := by omega
    subst e
    refine .inl ⟨it.stop W2 m2 H _ l2 h2.h.toSt0 (Nat.le_refl _), ?_⟩
    rw [List.drop_length] at o2
    exact o2 W2 σ H h2
end
end Dp
end

section
set_option Elab.async false
set_option linter.all false
set_option maxRecDepth 100000
set_option maxHeartbeats 4000000
/-! An exception's own __init__: super().__init__(text); self.f = x. -/
namespace XI
open PySem PySem.W PySem.Calls PyProof.Rows
/-- what is known of the class at C and of its __init__ at f -/
structure Sup (prog : Program) (K : Frag) (mg : Str → Option Value) (C f cda cc : Addr) (fd : FuncData) (scope : Scope) : Prop where
  lf : ∃ oc od osl, K.lookup f = some ⟨oc, od, .func fd, osl⟩
  par : ∃ ar, (fd.params.posonlyargs ++ fd.params.args).head? = some ar ∧ ar.arg = ("self" : Str)
  code : ∃ ccl cdd vs ccs file tf, K.lookup cda = some ⟨ccl, cdd, .fields vs, ccs⟩ ∧ vs[2]? = some (.str file tf) ∧ ((prog.main.file : Str) == file) = true
  cell : ∃ cl cld csl, K.lookup cc = some ⟨cl, cld, .cell (some (.ref C)), csl⟩
  cls : ∃ cd, clsIn K C = some cd
  sub : mroIn K C (.ref C) = some true
  nosup : mg "super" = none
  ks : scope.names.lookup ("super" : Str) = some .globalImplicit
  kc : scope.names.lookup ("__class__" : Str) = some .free
  ka : scope.names.lookup ("self" : Str) = some .local
  kk : scope.kind = .function
  top : (prog.main.scope.names.lookup ("super" : Str)).isSome = false
section
variable {prog : Program} {w : World} {A : Around} {E : Value → Shared → Prop} {K : Frag} {mg mb m : Str → Option Value} {s : Shared} {h₀ : Heap} {L C f cda cc x : Addr} {fd : FuncData} {scope : Scope} {news : List (Addr × Obj)} {ox : Obj} {odx : Option Obj}
theorem cls_at (X : K.In h₀) {cd : ClassData} (e : clsIn K C = some cd) : ∃ oD, h₀.get? C = some oD ∧ oD.data = .cls cd := by
  unfold clsIn at e
  split at e
  · rename_i c d cd' sl ho
    cases e
    exact ⟨_, X _ _ ho, rfl⟩
  · cases e
/-- super(), in such a def -/
theorem sup_node (S : Sup prog K mg C f cda cc fd scope) {body : List Stmt} {q : Str} {p0 p1 : Pos} {attr : Str} {whole : Sem Value} {Q : Value → Shared → Prop} (F : Fr h₀ L s.heap m) (X₀ : K.In h₀) (N : News h₀ L s.heap news) (hg : h₀.Ns mainGlobals mg) (hb : h₀.Ns builtinsNs mb) (hbs : mb "super" = some (.type "super"))
    (hv : m "self" = some (.ref x)) (I : InstAt s.heap x ox C odx) (hat : (attr == ("__class__" : Str)) = false)
    (k : ∀ so h', Fr h₀ L h' m → News h₀ L h' ((so, ks_superObj C x C) :: news) → (∀ p ∈ news, p.1 < so) → Q (.ref so) { s with heap := h' }) :
    _root_.PySem.wpAt (model prog w) A (.func body (ksEnv q scope L f (.ref cda) cc)) (attributeBase (.Call (.Name "super" p0) [] [] p1) attr (ksEnv q scope L f (.ref cda) cc) whole) Q E s := by
  have X : K.In s.heap := X₀.keeps F.keep
  obtain ⟨oc, od, osl, lf⟩ := S.lf
  obtain ⟨ar, par, ear⟩ := S.par
  obtain ⟨ccl, cdd, vs, ccs, file, tf, lcode, hvs, hfile⟩ := S.code
  obtain ⟨cl, cld, csl, lcell⟩ := S.cell
  obtain ⟨cd, hcd⟩ := S.cls
  obtain ⟨oD, hD1, hD2⟩ := cls_at X hcd
  obtain ⟨hh, g, d, t, os⟩ := s
  refine ks_wpAt_super_base (env := ksEnv q scope L f (.ref cda) cc) S.ks S.kc hat rfl (X _ _ lf) rfl par rfl (X _ _ lcode) rfl hvs hfile S.top ?_
  refine ks_loadName_global S.kk S.ks (loadGlobal_builtin (env := ksEnv q scope L f (.ref cda) cc) (hg.keeps F.keep) S.nosup (hb.keeps F.keep) hbs ⟨rfl, wpAny_loadName_free S.kk S.kc rfl ⟨_, X _ _ lcell, rfl⟩ ?_⟩)
  rw [ear]
  refine wpAny_loadName_local S.kk S.ka F.ns hv (ks_wpAny_isType_cls hD1 hD2 ⟨rfl, ks_wpAny_call_super hD1 hD2 I.at_ I.cls (fun c e => ?_) (looks_mroIn X S.sub) fun h' e kp => ?_⟩)
  · have no := I.no
    unfold notCls at no
    rw [e] at no
    exact Bool.noConfusion no
  · have np := ks_newsPush (s := ⟨hh, g, d, t, os⟩) F N rfl e kp
    exact k _ _ np.1 np.2.1 np.2.2
end
end XI
end

section
set_option Elab.async false
set_option linter.all false
set_option maxRecDepth 100000
set_option maxHeartbeats 4000000
namespace XI
open PySem PySem.W PySem.Calls PyProof.Rows
/-- more of the class, for the whole of its __init__ -/
structure Ini (prog : Program) (K : Frag) (mg : Str → Option Value) (C f cda cc : Addr) (fd : FuncData) (qual : Str) (scope : Scope) (y fl : Str) : Prop extends Sup prog K mg C f cda cc fd scope where
  rec_ : codeIn K (.ref cda) qual = true
  nocell : ∀ z ∈ scope.names, z.2 ≠ .cell
  loc : scope.names.lookup y = some .local
  co : scope.isCoroutine = false
  gen : scope.isGenerator = false
  sup : ks_superIn K C C "__init__" = some (some (.builtin "ValueError.__init__"))
  ve : subIn K (.ref C) (.type "ValueError") = some true
  third : nsIn K cStatics "thirdparty.any" = some none
  ini : excInitIn K C [.type "ValueError", .type "Exception", .type "BaseException", .type "object"] "ValueError.__new__" = true
  ox : L2.OexC K C
  nofl : findIn K (.ref C) fl = some none
section
variable {prog : Program} {w : World} {A : Around} {E : Value → Shared → Prop} {K : Frag} {mg mb m : Str → Option Value} {s : Shared} {base : Heap} {L C f cda cc x : Addr} {name qual : Str} {params : Arguments} {scope : Scope} {dV kV doc pm ct : Value} {an : Option Addr}
theorem init_run {tx y fl : Str} {j : Nat} {p0 p1 p2 p3 p4 p5 p6 p7 p8 p9 : Pos} {u : Value} {args : Args} {R : Result → Shared → Prop} {t0 : Addr} {body : List Stmt}
    (hbody : body = [.Expr (.Call (.Attribute (.Call (.Name "super" p0) [] [] p1) "__init__" p2) [.Constant (.str tx) j p3] [] p4) p5, .Assign [.Attribute (.Name "self" p6) fl p7] (.Name y p8) p9])
    (S : Ini prog K mg C f cda cc (ksFn name qual params body scope dV kV doc pm an (.ref cda) ct cc) qual scope y fl)
    (lf : ∃ oc od osl, K.lookup f = some ⟨oc, od, .func (ksFn name qual params body scope dV kV doc pm an (.ref cda) ct cc), osl⟩)
    (hroom : A.depth < recursionLimit) (hlim : s.heap.NoLimit) (X : K.In base) (hkb : ∀ b o, base.get? b = some o → s.heap.get? b = some o) (hxb : base.get? x = none) (hg : base.Ns mainGlobals mg) (hb : base.Ns builtinsNs mb) (hbs : mb "super" = some (.type "super"))
    (he : s.heap.get? x = some (excObj C t0 none .none)) (hbind : BindsTo s (ksFn name qual params body scope dV kV doc pm an (.ref cda) ct cc) args [("self", .ref x), (y, u)]) (hys : y ≠ "self") (hyd : (y == ("__debug__" : Str)) = false)
    (hs1 : ∀ L : Addr, swapsWith (.Call (.Attribute (.Call (.Name "super" p0) [] [] p1) "__init__" p2) [.Constant (.str tx) j p3] [] p4) none p5.line (ksEnv qual scope L f (.ref cda) cc) = pure false) (hint : ∀ L : Addr, interactive (ksEnv qual scope L f (.ref cda) cc) = false) (hs2 : ∀ L : Addr, swapsWith (.Name y p8) (some (.Attribute (.Name "self" p6) fl p7)) p9.line (ksEnv qual scope L f (.ref cda) cc) = pure false)
    (hcall : ∀ L : Addr, ∃ pl : Sem Bool, eval (.Call (.Attribute (.Call (.Name "super" p0) [] [] p1) "__init__" p2) [.Constant (.str tx) j p3] [] p4) (ksEnv qual scope L f (.ref cda) cc) = (do
      let ov ← attributeBase (.Call (.Name "super" p0) [] [] p1) "__init__" (ksEnv qual scope L f (.ref cda) cc) (eval (.Call (.Name "super" p0) [] [] p1) (ksEnv qual scope L f (.ref cda) cc))
      standAt p2.atName
      let (fx, first) ← holding [ov] (getMethod ov "__init__" pl)
      callWith p4 fx first (backTo p4 (starEach [.Constant (.str tx) j p3] (ksEnv qual scope L f (.ref cda) cc))) []))
    (hpl : ∀ L : Addr, backTo p4 (starEach [.Constant (.str tx) j p3] (ksEnv qual scope L f (.ref cda) cc)) = [(false, eval (.Constant (.str tx) j p3) (ksEnv qual scope L f (.ref cda) cc))])
    (hq : ∀ h' tk' dx t', (∀ b o, b ≠ x → s.heap.get? b = some o → h'.get? b = some o) → s.heap.objs.size ≤ dx → dx ≠ x → h'.get? x = some ({ cls := .ref C, dict := some dx, data := .fields #[.ref t', .none, .none, .none, .bool false, .none] } : Obj) →
      h'.Ns1 dx (fun z => if z = fl then some u else none) → R (.ok (.ret .none)) { s with heap := h', toks := tk' }) :
    codeAny (model prog w) A (.call (.ref f) args) R s := by
  subst hbody
  obtain ⟨oc, od, osl, lf⟩ := lf
  have XS : K.In s.heap := X.keeps hkb
  refine ks_codeAny_call_defAt (fd := ksFn name qual params _ scope dV kV doc pm an (.ref cda) ct cc) (binds := [("self", .ref x), (y, u)]) hroom (XS _ _ lf) rfl hlim (codeRec_of XS S.rec_) rfl hbind S.nocell (fun z hz => ?_) (fun h₁ hns hk₁ => ?_) S.co S.gen S.kk
  · rcases List.mem_cons.mp hz with rfl | hz
    · exact S.ka
    · obtain rfl := List.mem_singleton.mp hz
      exact S.loc
  have kG : ∀ b o, base.get? b = some o → (hideAll s.heap [x]).get? b = some o := fun b o e => hideAll_get _ (hkb b o e) fun z => by
    rw [List.mem_singleton.mp z] at e
    rw [hxb] at e
    cases e
  have XG : K.In (hideAll s.heap [x]) := X.keeps kG
  have F : Fr (hideAll s.heap [x]) s.heap.objs.size h₁ (fun z => ([("self", Value.ref x), (y, u)] : List (Str × Value)).reverse.lookup z) := ⟨hns, fun b o e => hk₁ b o (of_hideAll _ e), Nat.le_of_eq (hideAll_size _ _)⟩
  have xL : x ≠ s.heap.objs.size := Nat.ne_of_lt (Heap.lt_size he)
  have N : News (hideAll s.heap [x]) s.heap.objs.size h₁ [(x, excObj C t0 none .none)] := fun p hp => by
    obtain rfl := List.mem_singleton.mp hp
    exact ⟨hk₁ _ _ he, xL, hideAll_none _ (List.mem_singleton.mpr rfl)⟩
  have mself : ([("self", Value.ref x), (y, u)] : List (Str × Value)).reverse.lookup ("self" : Str) = some (.ref x) := by
    show List.lookup ("self" : Str) [(y, u), (("self" : Str), Value.ref x)] = _
    have ne : ((("self" : Str) == y) = false) := by
      rw [beq_eq_false_iff_ne]
      exact fun z => hys z.symm
    rw [List.lookup_cons, ne]
    rfl
  have my : ([("self", Value.ref x), (y, u)] : List (Str × Value)).reverse.lookup y = some u := by
    show List.lookup y [(y, u), (("self" : Str), Value.ref x)] = _
    simp
  generalize hM : (fun z => ([("self", Value.ref x), (y, u)] : List (Str × Value)).reverse.lookup z) = M at F hns
  have mself' : M "self" = some (.ref x) := by rw [← hM]; exact mself
  have my' : M y = some u := by rw [← hM]; exact my
  show _root_.PySem.wpAt (model prog w) _ (.func _ (ksEnv qual scope s.heap.objs.size f (.ref cda) cc)) (execs _ (ksEnv qual scope s.heap.objs.size f (.ref cda) cc)) _ _ _
  obtain ⟨pl, hpl'⟩ := hcall s.heap.objs.size
  have hs1' := hs1 s.heap.objs.size
  have hint' := hint s.heap.objs.size
  have hs2' := hs2 s.heap.objs.size
  have hpl2 := hpl s.heap.objs.size
  obtain ⟨hh, g, d, t, os⟩ := s
  refine ks_wpAt_execs_cons (ks_wpAt_Expr_any (ks_wpAt_MethodCall (pl := pl) (sup_node S.toSup F XG N (hg.keeps kG) (hb.keeps kG) hbs mself' (InstAt.of_exc0 N (List.mem_singleton.mpr rfl)) (by decide) fun so h2 F2 N2 l2 => ?_) hpl') hint' hs1')
  have lx : x < so := l2 (x, excObj C t0 none .none) (List.mem_singleton.mpr rfl)
  refine kxs_method (s := ⟨h2, g, d, _, os⟩) kxs_ValueError F2 XG N2 (List.mem_cons_self ..) (InstAt.of_exc0 N2 (List.mem_cons_of_mem _ (List.mem_singleton.mpr rfl))) S.third S.sup S.ve (by decide) fun q h3 F3 N3 l3 => ?_
  have lq : so < q := l3 (so, ks_superObj C x C) (List.mem_cons_self ..)
  rw [hpl2]
  refine kxs_callWith (i := "ValueError.__init__") (x := x) rfl (evalArgs_plain (spliced_cons (Constant_str (spliced_nil ⟨kxs_at N3 (List.mem_cons_self ..), ?_⟩))))
  refine kxs_call (s := ⟨h3, g, d, _, os⟩) F3 XG N3 PySem.F.excBase_ValueError S.ini (List.mem_cons_self ..) (.tail (Nat.ne_of_gt (Nat.lt_trans lx lq)) (.tail (Nat.ne_of_gt lx) (.head fun p hp => nomatch hp))) (by show 1 ≤ sizeLine; rw [sizeLine_eq]; omega) fun t' h4 F4 N4 l4 => ?_
  have x4 : h4.get? x = some (excObj C t' none .none) := (N4 (x, excObj C t' none .none) (by simp)).1
  refine ks_wpAt_execs_cons (wpAt_of_wpAny (plainObj_wpAny_Assign_Attribute (nameX_L (s := ⟨h4, g, d, _, os⟩) F4 my' (nameX_L (s := ⟨h4, g, d, _, os⟩) F4 mself' ?_ S.kk S.ka (by decide)) S.kk S.loc hyd) hs2'))
  obtain ⟨nm, qc, Nc, bs, bm, sn, sub, ab, col, dd, k0, k1, k2, k3, k5, hC, hbm⟩ := S.ox.cls
  have hcl : clsIn K C = some { name := nm, bases := bs, mro := .ref C :: bm, ns := Nc, qualname := qc, hasDict := true, slotNames := sn, subclasses := sub, abstract := ab, collection := col, hasDel := false } := by unfold clsIn; rw [hC] <;> rfl
  refine set_plain (s := ⟨h4, g, d, _, os⟩) (XG.keeps F4.keep) (ox := excObj C t' none .none) (od := none) ⟨x4, rfl, rfl, trivial⟩ S.ox.sa ?_
  refine PySem.HandSPX.exc_osa (XG.keeps F4.keep) x4 hcl (show PySem.HandSPX.refsVE (.ref C :: bm) = true from hbm) rfl S.nofl fun h5 tk5 dx k5 dn dne hx5 hn5 => ?_
  refine wpAt_of_wpAny (wpAny_execs_nil ?_)
  refine hq h5 tk5 dx t' (fun b o hbx e => k5 b o hbx (F4.keep b o (hideAll_get _ e fun z => hbx (List.mem_singleton.mp z)))) ?_ dne hx5 hn5
  have lt := F4.ns.lt
  exact Nat.le_trans (Nat.le_of_lt lt) dn
end
end XI
end

section
set_option Elab.async false
set_option linter.all false
set_option maxRecDepth 100000
set_option maxHeartbeats 4000000
/-! C(e): an exception made. -/
namespace Dp
open PySem PySem.Spec PyProof.Rows L2
section
variable {P : Program} {w : World} {H : Hp} {hp h' : Heap} {a C dx : Addr} {fl : Str} {y : V} {u : Value} {fs ex : List Addr}
/-- what has become of the heap behind the exception's __init__ -/
theorem xi_un {t' : Addr} (hok : HOk P w H hp) (ea : H a = some (exo a C none)) (kp : ∀ b o, b ≠ a → hp.get? b = some o → h'.get? b = some o) (hsz : hp.objs.size ≤ dx) (hda : dx ≠ a)
    (hx : h'.get? a = some ({ cls := .ref C, dict := some dx, data := .fields #[.ref t', .none, .none, .none, .bool false, .none] } : Obj)) (hn : h'.Ns1 dx (fun z => if z = fl then some u else none)) (ry : RelV y u) :
    Un fs ex H (upd (upd H dx (exd dx [(fl, y)])) a (exo a C (some dx))) hp h' ∧ HOk P w (upd (upd H dx (exd dx [(fl, y)])) a (exo a C (some dx))) h' := by
  have fresh : H dx = none := hok.fresh hsz
  have old : ∀ {b : Addr} {o : Obj}, hp.get? b = some o → b ≠ dx := fun q => Nat.ne_of_lt (Nat.lt_of_lt_of_le (Heap.lt_size q) hsz)
  have free : ∀ {b : Addr}, H b = none → b ≠ a := fun {b} n z => by rw [z, ea] at n; cases n
  have two : ∀ {b : Addr}, b ≠ a → b ≠ dx → (upd (upd H dx (exd dx [(fl, y)])) a (exo a C (some dx))) b = H b := fun {b} n1 n2 => by rw [upd_ne n1, upd_ne n2]
  constructor
  · constructor
    · intro b o q n _ _
      exact kp b o (free n) q
    · intro b o q n _ _
      exact ⟨o.slots, kp b o (free n) q⟩
    · intro b o q n _
      rw [two (free n) (old q)]
      exact n
    · intro b o q _
      rcases Nat.decEq b a with z | z
      · exact ⟨o, kp b o z q⟩
      · exact ⟨_, z ▸ hx⟩
    · intro b xs q
      rw [two (at_ne ea q exo_tup) (ne_of_none q fresh)]
      exact q
    · intro b o v q
      rw [two (at_ne ea q exo_frz) (ne_of_none q fresh)]
      exact q
    · intro b ps q
      refine ⟨#[], ?_⟩
      rw [two (at_ne ea q exo_tbl) (ne_of_none q fresh), q]
      simp
  · intro b o q
    rcases Nat.decEq b a with nb | rfl
    · rw [upd_ne nb] at q
      rcases Nat.decEq b dx with nd | rfl
      · rw [upd_ne nd] at q
        refine (hok b o q).stay (fun c v hc z => kp c v ?_ z) (fun c hc => ?_) fun c xs hc => ?_
        · rcases hc with rfl | hc
          · exact nb
          · exact at_ne ea hc exo_own
        · rw [two (at_ne ea hc exo_own) (ne_of_none hc fresh)]
          exact hc
        · rw [two (at_ne ea hc exo_tup) (ne_of_none hc fresh)]
          exact hc
      · rw [upd_same] at q
        cases q
        exact exd_ok hn (relO_put (fs := []) ry fun _ => True.intro)
    · rw [upd_same] at q
      cases q
      exact exo_ok hx
end
/-- the class at C, its __init__: super().__init__(text); self.fl = its argument -/
structure XIni (P : Program) (K : PySem.W.Frag) (mg : Str → Option Value) (C : Addr) (fl : Str) : Prop where
  ex : ∃ (fI cda cc : Addr) (name qual : Str) (params : Arguments) (scope : Scope) (dV kV doc pm ct : Value) (an : Option Addr) (tx y : Str) (j : Nat) (p0 p1 p2 p3 p4 p5 p6 p7 p8 p9 : Pos),
    let body : List Stmt := [.Expr (.Call (.Attribute (.Call (.Name "super" p0) [] [] p1) "__init__" p2) [.Constant (.str tx) j p3] [] p4) p5, .Assign [.Attribute (.Name "self" p6) fl p7] (.Name y p8) p9]
    let fd := PySem.W.ksFn name qual params body scope dV kV doc pm an (.ref cda) ct cc
    XI.Ini P K mg C fI cda cc fd qual scope y fl ∧ (∃ oc od osl, K.lookup fI = some ⟨oc, od, .func fd, osl⟩) ∧ (∀ us : List Value, us.length = 2 → bindArgs fd ⟨us, []⟩ = pure ((["self", y] : List Str).zip us)) ∧ y ≠ "self" ∧ (y == ("__debug__" : Str)) = false ∧
    PySem.W.findIn K (.ref C) "__init__" = some (some (.ref fI)) ∧ PySem.W.typeIn K (.ref fI) = some (.type "function") ∧
    ∀ L : Addr, swapsWith (.Call (.Attribute (.Call (.Name "super" p0) [] [] p1) "__init__" p2) [.Constant (.str tx) j p3] [] p4) none p5.line (PySem.W.ksEnv qual scope L fI (.ref cda) cc) = pure false ∧ interactive (PySem.W.ksEnv qual scope L fI (.ref cda) cc) = false ∧
      swapsWith (.Name y p8) (some (.Attribute (.Name "self" p6) fl p7)) p9.line (PySem.W.ksEnv qual scope L fI (.ref cda) cc) = pure false ∧
      (∃ pl : Sem Bool, eval (.Call (.Attribute (.Call (.Name "super" p0) [] [] p1) "__init__" p2) [.Constant (.str tx) j p3] [] p4) (PySem.W.ksEnv qual scope L fI (.ref cda) cc) = (do
        let ov ← attributeBase (.Call (.Name "super" p0) [] [] p1) "__init__" (PySem.W.ksEnv qual scope L fI (.ref cda) cc) (eval (.Call (.Name "super" p0) [] [] p1) (PySem.W.ksEnv qual scope L fI (.ref cda) cc))
        standAt p2.atName
        let (fx, first) ← holding [ov] (getMethod ov "__init__" pl)
        callWith p4 fx first (backTo p4 (starEach [.Constant (.str tx) j p3] (PySem.W.ksEnv qual scope L fI (.ref cda) cc))) [])) ∧
      backTo p4 (starEach [.Constant (.str tx) j p3] (PySem.W.ksEnv qual scope L fI (.ref cda) cc)) = [(false, eval (.Constant (.str tx) j p3) (PySem.W.ksEnv qual scope L fI (.ref cda) cc))]
/-- the reading of C(e) -/
def tXi (C : Addr) (fl : Str) (te : TE) : L2.St → Hp → XK → Prop := fun σ H Q => te σ H fun v H1 => ∀ d, H1 d = none → Q (.ref C) (some d) (upd H1 d (.xd [(fl, v)]))
theorem del_upd {H1 : Hp} {a dx : Addr} {fl : Str} {v : V} {o1 o2 : HO} (hn : H1 a = none) : upd (del (upd (upd (upd H1 a o1) dx (exd dx [(fl, v)])) a o2) a) dx (.xd [(fl, v)]) = upd H1 dx (.xd [(fl, v)]) := by
  funext b
  rcases Nat.decEq b dx with nd | rfl
  · rw [upd_ne nd, upd_ne nd]
    rcases Nat.decEq b a with na | rfl
    · rw [del_ne na, upd_ne na, upd_ne nd, upd_ne na]
    · rw [del_same, hn]
  · rw [upd_same, upd_same]
theorem pmk_xi {X : Cx} {x : Str} {C : Addr} {fl : Str} {e : Expr} {te : TE} {k : Nat} {p pos : Pos} (S : XIni X.prog X.K X.mg C fl) (hr : Room (k + 1) X.A) (hg : Gl X x) (hm : X.mg x = some (.ref C)) (he : PE X e te)
    (hdb : (x == ("__debug__" : Str)) = false := by decide) (hst : starEach [e] X.env = [(false, eval e X.env)] := by rfl) : PMk X (.Call (.Name x p) [e] [] pos) (tXi C fl te) := by
  intro pins s σ H Q I h
  obtain ⟨fI, cda, cc, name, qual, params, scope, dV, kV, doc, pm, ct, an, tx, y, j, p0, p1, p2, p3, p4, p5, p6, p7, p8, p9, ini, lf, hbind, hys, hyd, iC, tI, more⟩ := S.ex
  have T := ini.ox
  obtain ⟨nm, q, N, bs, bm, sn, sub, ab, col, dd, k0, k1, k2, k3, k5, hC, hbm⟩ := T.cls
  refine wpAny_Call_Name_kw (ld_glob I hg hm ?_ hdb)
  have ha : PA X [e] (tCons te tNil) := pa_cons he pa_nil hst
  refine PySem.W.callWith_K (h₀ := X.base) I.ok.mod.kin T.kC (thn (ha.run pos pins s σ H (fun vs H1 => match vs with | [v] => ∀ d, H1 d = none → Q (.ref C) (some d) (upd H1 d (.xd [(fl, v)])) | _ => False) I h) fun us s1 hh => ?_) hst rfl
  obtain ⟨vs, H1, I1, r1, q1⟩ := hh
  cases vs with
  | nil => exact q1.elim
  | cons v vt =>
    cases vt with
    | cons _ _ => exact q1.elim
    | nil =>
      cases r1 with
      | cons rv rn =>
        rename_i u us'
        cases rn
        refine ⟨I1.kIn, ?_⟩
        show wpAny _ _ (call (.ref C) [u]) _ _ _
        obtain ⟨hp, g, dr, tk, os⟩ := s1
        have hsz : hp.objs.size ≤ hp.objs.size + 1 := Nat.le_succ _
        have hn : H1 (hp.objs.size + 1) = none := I1.hok.fresh hsz
        have kk : ∀ b o, hp.get? b = some o → ((hp.push (PySem.W.kdv_tup [u])).push (PySem.HandSPX.excO C hp.objs.size)).get? b = some o := fun b o z => Heap.get?_push_of_some _ (Heap.get?_push_of_some _ z)
        have hget : ((hp.push (PySem.W.kdv_tup [u])).push (PySem.HandSPX.excO C hp.objs.size)).get? (hp.objs.size + 1) = some (PySem.HandSPX.excO C hp.objs.size) := by heap_get
        have I2 : Inv X pins σ (upd H1 (hp.objs.size + 1) (exo (hp.objs.size + 1) C none)) ⟨(hp.push (PySem.W.kdv_tup [u])).push (PySem.HandSPX.excO C hp.objs.size), g, dr, tk, os⟩ := I1.laid (t' := tk) (o := exo (hp.objs.size + 1) C none) kk hsz (exo_ok hget)
        obtain ⟨mb, b1, b2⟩ := I1.mod.blt
        refine wpAny_call (PySem.HandSPX.call_own PySem.F.excBase_ValueError (fun Y => PySem.HandSPX.refsVE_contains Y bm hbm) (I1.kIn _ _ hC) (PySem.W.looks_findIn I1.kIn iC) (fun self => PySem.W.bind_fn I1.kIn self tI) (by show 1 ≤ sizeLine; rw [sizeLine_eq]; omega) ?_)
        refine XI.init_run (s := ⟨(hp.push (PySem.W.kdv_tup [u])).push (PySem.HandSPX.excO C hp.objs.size), g, dr, tk, os⟩) (base := X.base) (x := hp.objs.size + 1) (u := u) (t0 := hp.objs.size) rfl ini lf (hr.make C [u] []).depth I2.nolimit I.ok.mod.kin I2.bk (Heap.get?_none_of_le (Nat.le_trans (Nat.le_trans I1.ok.bsz I1.sz) hsz)) I.ok.mod.glob b1 ((b2 "super" (by decide)).trans rfl) hget (.of_eq (hbind [.ref (hp.objs.size + 1), u] rfl)) hys hyd
          (fun L => (more L).1) (fun L => (more L).2.1) (fun L => (more L).2.2.1) (fun L => (more L).2.2.2.1) (fun L => (more L).2.2.2.2) fun h5 tk5 dx t' k5 dn dne hx5 hn5 => ?_
        have ea : (upd H1 (hp.objs.size + 1) (exo (hp.objs.size + 1) C none)) (hp.objs.size + 1) = some (exo (hp.objs.size + 1) C none) := upd_same
        obtain ⟨un, hok⟩ := xi_un (fs := frs X.stack) (ex := []) I2.hok ea k5 dn dne hx5 hn5 rv
        have hd1 : H1 dx = none := by
          have z := I2.hok.fresh dn
          rw [upd_ne dne] at z
          exact z
        refine ⟨rfl, mk_end (a := hp.objs.size + 1) (C := C) (d := dx) (raises_own T.exC T.tyC) I1 hsz kk un hok rfl I1.bare upd_same (by rw [upd_ne dne, upd_same]) hd1 ?_⟩
        rw [del_upd hn]
        exact q1 dx hd1
end Dp
end

section
set_option Elab.async false
set_option linter.all false
set_option maxRecDepth 100000
set_option maxHeartbeats 4000000
/-! try with several clauses, each with a name or without. -/
namespace Dp
open PySem PySem.Spec PyProof.Rows L2
structure Clz where
  c : Value
  nm : Option (Nat × Str)
  ts : Addr → Value → Option Addr → TS
def offD (i : Nat) (D : Ends) : Ends := { nx := fun σ H => D.nx (σ.set i none) H, rt := D.rt, bk := fun σ H => D.bk (σ.set i none) H, ct := fun σ H => D.ct (σ.set i none) H }
def wClz (K : PySem.W.Frag) (Wout : WX) (D : Ends) : List Clz → WX
  | [] => Wout
  | k :: r => fun cls d σ H => ∃ b, PySem.W.exmOne K cls k.c = some b ∧ (b = true → ∀ a, H a = none → match k.nm with
      | none => k.ts a cls d D σ H
      | some p => k.ts a cls d (offD p.1 D) (σ.set p.1 (some (.ref a))) H) ∧ (b = false → wClz K Wout D r cls d σ H)
inductive ClOk (X : Cx) : List ExceptHandler → List Clz → Prop
  | nil : ClOk X [] []
  | cons {x : Str} {np pos' : Pos} {b₀ : Stmt} {suite : List Stmt} {hds : List ExceptHandler} {k : Clz} {l : List Clz} {n : Option Str} (en : n = k.nm.map (·.2)) (hc : Names X x k.c) (hn : ∀ p, k.nm = some p → X.N[p.1]? = some p.2 ∧ X.env.kindOf p.2 = some .local)
      (hsu : ∀ (a : Addr) (oe : Obj) (cls : Value) (d : Option Addr) (pn : List (Addr × Obj)), Zc cls d oe → (∃ vs, oe.data = .fields vs) → PSs (X.suite a ((a, oe) :: pn)) (b₀ :: suite) (k.ts a cls d)) (r : ClOk X hds l) : ClOk X (.ExceptHandler (some (.Name x np)) n (b₀ :: suite) pos' :: hds) (k :: l)
section
variable {X : Cx} {pins : List (Addr × Obj)} {σ : L2.St} {H : Hp} {D : Ends} {a : Addr} {cls : Value} {d : Option Addr} {Wout : WX} {sv : Shared} {g : Heap}
theorem clz_name {x : Str} {c : Value} {np : Pos} {oe : Obj} {pn : List (Addr × Obj)} {T : Value → Shared → Prop} {E : Value → Shared → Prop} (hc : Names X x c) (S : Inv (X.suite a ((a, oe) :: pn)) [] σ H { sv with heap := g }) (q : T c { sv with heap := g }) :
    wpAny (model X.prog X.w) (X.A.mark (some (.ref a))) (eval (.Name x np) X.env) T E { sv with heap := g } := by
  obtain ⟨hg, hdb, hm | ⟨hm, hv, hnn⟩⟩ := hc
  · exact ld_glob (X := X.suite a ((a, oe) :: pn)) S hg hm q hdb
  · exact ld_blt (X := X.suite a ((a, oe) :: pn)) S hg hm hv q hnn hdb
/-- the end of a suite -/
theorem clz_end {oe : Obj} {f : Flow} {s6 : Shared} (ok : X.Ok) (h : SP (X.suite a ((a, oe) :: (X.pn ++ pins))) [] D f s6) : SP X pins D f s6 := by
  cases f with
  | ret u => exact let ⟨v, σ6, H6, S6, r6, q6⟩ := h; ⟨v, σ6, H6, S6.unsuite ok, r6, q6⟩
  | next => exact let ⟨σ6, H6, S6, q6⟩ := h; ⟨σ6, H6, S6.unsuite ok, q6⟩
  | brk => exact let ⟨σ6, H6, S6, q6⟩ := h; ⟨σ6, H6, S6.unsuite ok, q6⟩
  | cont => exact let ⟨σ6, H6, S6, q6⟩ := h; ⟨σ6, H6, S6.unsuite ok, q6⟩
/-- .. whose name goes -/
theorem clz_endN {oe : Obj} {f : Flow} {s6 : Shared} {i : Nat} {n : Str} {pos : Pos} {E : Value → Shared → Prop} (ok : X.Ok) (hN : X.N.Nodup) (hi : X.N[i]? = some n) (hl : X.env.kindOf n = some .local) (h : SP (X.suite a ((a, oe) :: (X.pn ++ pins))) [] (offD i D) f s6) :
    wpAny (model X.prog X.w) X.A (do bindName X.env n .none; unbindBehindTheSuite X.env n pos) (fun _ s7 => SP X pins D f s7) E s6 := by
  cases f with
  | ret u => exact let ⟨v, σ6, H6, S6, r6, q6⟩ := h; gone_ok (S6.unsuite ok) hN hi hl fun s7 J7 => ⟨v, _, H6, J7, r6, q6⟩
  | next => exact let ⟨σ6, H6, S6, q6⟩ := h; gone_ok (S6.unsuite ok) hN hi hl fun s7 J7 => ⟨_, H6, J7, q6⟩
  | brk => exact let ⟨σ6, H6, S6, q6⟩ := h; gone_ok (S6.unsuite ok) hN hi hl fun s7 J7 => ⟨_, H6, J7, q6⟩
  | cont => exact let ⟨σ6, H6, S6, q6⟩ := h; gone_ok (S6.unsuite ok) hN hi hl fun s7 J7 => ⟨_, H6, J7, q6⟩
theorem try_clz {body : List Stmt} {hd : ExceptHandler} {hds : List ExceptHandler} {l : List Clz} {pos : Pos} {tb : WX → TS} (st : X.stack = X.env :: X.outer) (fr : X.env.frame = some X.env.locals) (hN : X.N.Nodup) (tk : Takes X Wout)
    (hb : ∀ (W : WX) (pn : List (Addr × Obj)) (xe : Value → Shared → Prop), Takes (X.tr pn xe) W → PassesOwn (model X.prog X.w) X.A X.env xe → PSs (X.tr pn xe) body (tb W)) (cl : ClOk X (hd :: hds) l) : PS X (.Try body (hd :: hds) [] [] pos) (fun D σ H => tb (wClz X.K Wout D l) D σ H) := by
  refine ⟨fun pins s σ H D I h => ?_⟩
  have ok := I.ok
  have frames : X.A.frames = some (X.env :: X.outer) := ok.frames.trans (congrArg some st)
  refine wpAny_Try_except (wpAny_mono ((hb (wClz X.K Wout D l) (X.pn ++ pins) (fun e s₁ => wpAny (model X.prog X.w) X.A (noteFrame e X.env) (fun _ s₂ => wpAny (model X.prog X.w) X.A (setFlight e none) (fun _ s₃ => wpAny (model X.prog X.w) X.A (handleBy e X.env (hd :: hds)) (SP X pins D) X.xe s₃) X.xe s₂) X.xe s₁) (fun u sv xx => ?_) PassesOwn.looking).run [] s σ H D (I.toTry _) h) (fun f s1 hsp => ?_) fun e s1 he => he)
  · obtain ⟨a, B, sI, pins', σ', H', cls, d, rfl, J', nb, up, sky, na, os, ag, w⟩ := xx
    have J : Inv X pins σ' H' sI := J'.ofTry ok
    rw [st] at sky
    show wpAny (model X.prog X.w) X.A (noteFrame (.ref a) X.env) _ _ _
    refine Sky.land Zc.steady frames fr sky fun g3 fl3 up3 => ?_
    have J3 : Inv X pins σ' H' { sv with heap := g3 } := J.landed nb fl3.1 (up.trans up3) os ag
    obtain ⟨oe3, vs3, he3, hz3, hd3⟩ := fl3.there
    have off : a ∉ frs (X.env :: X.outer) := fun hm => by
      obtain ⟨_, o', e', hnf⟩ := fl3.2.2.1.mem hm
      cases he3.symm.trans e'
      exact hnf _ hd3
    have nL : a ≠ X.env.locals := fun z => off (List.mem_filterMap.mpr ⟨X.env, List.mem_cons_self, fr.trans (congrArg some z.symm)⟩)
    have nF : a ∉ X.fs := fun hm => by
      obtain ⟨e, he, q⟩ := List.mem_filterMap.mp hm
      exact off (List.mem_filterMap.mpr ⟨e, List.mem_cons_of_mem _ he, q⟩)
    have S3 := J3.suite he3 hd3 na nL nF
    have all : ∀ {hs : List ExceptHandler} {ks : List Clz}, ClOk X hs ks → wClz X.K Wout D ks cls d σ' H' → wpAny (model X.prog X.w) X.A (handleBy (.ref a) X.env hs) (SP X pins D) X.xe { sv with heap := g3 } := by
      intro hs ks hk
      induction hk with
      | nil =>
        intro w
        obtain ⟨k1, k2, k3, oe, vs, T, oT, ts', he, hz, hdd, h1, hr⟩ := id fl3
        refine wpAny_handleBy_nil ?_
        unfold PySem.passOn
        refine wpAny_bind (wpAny_field he hdd h1 ?_)
        rw [if_neg (show ¬ ((Value.ref T == Value.none) = true) from by simp)]
        have out : wpAny (model X.prog X.w) X.A (setFlight (.ref a) X.env.frame) (fun _ s4 => wpAny (model X.prog X.w) X.A (throw (.ref a) : Sem Flow) (SP X pins D) X.xe s4) X.xe { sv with heap := g3 } := by
          rw [fr]
          exact HandSPX.setFlight_upZ fl3 fun g4 hh4 up4 => wpAny_throw (tk _ _ ⟨a, B, sI, pins, σ', H', cls, d, rfl, J, nb, (up.trans up3).trans up4, .inr (.inr (by rw [st]; exact hh4)), na, os, ag, w⟩)
        first
          | exact wpAny_bind (wpAny_pure (wpAny_bind out))
          | exact wpAny_bind out
      | @cons x np pos' b₀ suite hds2 k l2 n en hc hn hsu r ih =>
        intro w
        obtain ⟨b, hb1, hyes, hno⟩ := w
        refine wpAny_handleBy_cons (codeAny_handlers_test (clz_name hc S3 ?_)) (by intro q; cases q)
        have LT : PySem.W.Looks (model X.prog X.w) g3 (typeOf (.ref a)) cls := fun A Q E s kp q => wpAny_typeOf_ref (kp _ _ he3) (by rw [hz3.1]; exact q)
        refine (PySem.W.exm_one (M := model X.prog X.w) J3.kIn LT hb1).here ?_
        cases b with
        | false => exact ih (hno rfl)
        | true =>
          have yes := hyes rfl a na
          cases e : k.nm with
          | none =>
            rw [e] at en yes
            subst en
            refine codeAny_handlers_suite (HandSPX.lands_againZ fl3 fun g4 fl4 up4 => ?_)
            obtain ⟨oe4, vs4, he4, hz4, hd4⟩ := fl4.there
            have S4 := (show Inv X pins σ' H' { sv with heap := g4 } from J.landed nb fl4.1 ((up.trans up3).trans up4) os ag).suite he4 hd4 na nL nF
            exact wpAny_mono ((hsu a oe4 cls d (X.pn ++ pins) hz4 ⟨_, hd4⟩).run [] _ _ H' _ S4 yes) (fun f s6 hsp => by have := clz_end ok hsp; cases f <;> exact this) fun _ _ z => z.elim
          | some p =>
            rw [e] at en yes
            subst en
            obtain ⟨hi, hl⟩ := hn p e
            refine codeAny_handlers_suite_as (HandSPX.lands_againZ fl3 fun g4 fl4 up4 => ?_)
            obtain ⟨oe4, vs4, he4, hz4, hd4⟩ := fl4.there
            have S4 := (show Inv X pins σ' H' { sv with heap := g4 } from J.landed nb fl4.1 ((up.trans up3).trans up4) os ag).suite he4 hd4 na nL nF
            refine store_ok (X := X.suite a ((a, oe4) :: (X.pn ++ pins))) (v := .ref a) S4 hN hi (.inl hl) rfl (fun s5 S5 => ?_) (.inr hl)
            exact wpAny_mono ((hsu a oe4 cls d (X.pn ++ pins) hz4 ⟨_, hd4⟩).run [] s5 _ H' _ S5 yes) (fun f s6 hsp => by have := clz_endN (E := X.xe) (pos := pos') ok hN hi hl hsp; cases f <;> exact this) fun _ _ z => z.elim
    exact all cl w
  · cases f with
    | next => exact let ⟨σ', H', J', q⟩ := hsp; wpAny_execs_nil ⟨σ', H', J'.ofTry ok, q⟩
    | ret u => exact let ⟨v, σ', H', J', r, q⟩ := hsp; ⟨v, σ', H', J'.ofTry ok, r, q⟩
    | brk => exact let ⟨σ', H', J', q⟩ := hsp; ⟨σ', H', J'.ofTry ok, q⟩
    | cont => exact let ⟨σ', H', J', q⟩ := hsp; ⟨σ', H', J'.ofTry ok, q⟩
end
end Dp
end

section
set_option Elab.async false
set_option linter.all false
set_option maxRecDepth 100000
set_option maxHeartbeats 4000000
/-! Raising, catching, moving: in the small syntax. -/
namespace Dp
open PySem PySem.Spec PyProof.Rows L2
/-- what the text says of the exception classes -/
structure Xx (G : Prog) (P : Program) (K : PySem.W.Frag) (mg : Str → Option Value) : Prop where
  ini : ∀ p ∈ G.exs, XIni P K mg (He.ga K p.1) p.2 ∧ mg p.1 = some (.ref (He.ga K p.1)) ∧ XfC K (He.ga K p.1) ∧ PySem.W.findIn K (.ref (He.ga K p.1)) p.2 = some none
  mat : ∀ p ∈ G.exm, PySem.W.exmOne K (.ref (He.ga K p.1.1)) (.ref (He.ga K p.1.2)) = some p.2 ∧ mg p.1.2 = some (.ref (He.ga K p.1.2))
section
variable {X : Cx} {Wx : WX} {W0 : Wd} {H0 : Hp}
theorem d_rse {c fl : Str} {a : Expr} {k : Nat} {p pos pos' : Pos} {f : Sl → Mu → R SV} (S : XIni X.prog X.K X.mg (He.ga X.K c) fl) (hr : Room (k + 1) X.A) (hg : Gl X c) (hm : X.mg c = some (.ref (He.ga X.K c))) (hc : X.calm = true) (tk : Takes X Wx) (he : PE X a (tS X Wx f)) (hdb : (c == ("__debug__" : Str)) = false) (hst : starEach [a] X.env = [(false, eval a X.env)]) :
    PS X (.Raise (some (.Call (.Name c p) [a] [] pos)) none pos') (tD X Wx W0 H0 fun s m => (f s m).st s fun x m1 => .ex ⟨c, [fl], [x.fz]⟩ s m1) := by
  refine ps_imp (ps_raise hc tk (pmk_xi S hr hg hm he hdb hst)) fun D σ H ⟨Wl, W, s, m, h, o⟩ => st_runz f h o fun b m1 W1 v H1 h1 p1 r o1 d hd => ?_
  obtain ⟨x2, p2⟩ := h1.h.toSt0.laid hd (.xd [(fl, v)])
  exact o1 _ σ (some d) _ (h1.step p2 x2) (.inr ⟨d, [v], rfl, upd_same, rfl, Reps.one (Rep.mono p2.le _ _ r)⟩)
theorem d_mov {i j : Nat} {x y : Str} {p pos pos' : Pos} (hN : X.N.Nodup) (hx : X.N[i]? = some x) (hl : L2.Loc X.env.scope x) (hk : X.fn x = true ∨ X.env.scope.names.lookup x = some .local) (hv : PE X (.Name y pos') (tVar j)) :
    PS X (.Assign [.Name x p] (.Name y pos') pos) (tD X Wx W0 H0 fun s m => if i = j then .bad else (match s[j]? with | some (some (.own c)) => .nx ((s.set j none).set i (some (.own c))) m | _ => .bad)) := by
  refine ps_imp (ps_set hN hx hl hv rfl hk) fun D σ H ⟨Wl, W, s, m, h, o⟩ => ?_
  revert o
  dsimp only
  split
  · exact fun o => o.elim
  · rename_i hij
    split
    · rename_i c e
      intro o
      obtain ⟨a, q, ow⟩ := h.h.own j c e
      have jl : j < s.length := (List.getElem?_eq_some_iff.mp e).1
      have h2 : HoldF X.K X.mg W0 H0 Wl W (s.set j none) m σ H := by
        refine ⟨h.h.drop j, h.st, fun i' c' b e1 e2 => ?_, h.le⟩
        by_cases hj : j = i'
        · subst hj
          rw [List.getElem?_set_self jl] at e1
          cases e1
        · rw [List.getElem?_set_ne hj] at e1
          exact h.of i' c' b e1 e2
      refine ⟨_, q, o W _ H (h2.putO i ow (h.of j c a e q) fun j' c' e1 z => ?_)⟩
      by_cases hj : j = j'
      · subst hj
        rw [List.getElem?_set_self jl] at e1
        cases e1
      · rw [List.getElem?_set_ne hj] at e1
        exact hj (h.h.dis j j' c c' a e e1 q z)
    · exact fun o => o.elim
/-! ### the clauses -/
def itE (a : Addr) (cls : Value) (d : Option Addr) (C : Addr) (i : Nat) : HI → TE
  | .str y => tC (.str y)
  | .int n => tC (.int n)
  | .fld f => tXf a cls d C f (tVar i)
def itA (a : Addr) (cls : Value) (d : Option Addr) (C : Addr) (i : Nat) : List HI → TA
  | [] => tNil
  | h :: l => tCons (itE a cls d C i h) (itA a cls d C i l)
theorem lookup_zip {K : PySem.W.Frag} {mg : Str → Option Value} {W : Wd} {f : Str} {dd : Dp.D} : ∀ {ns : List Str} {ds : List Dp.D} {vs : List V}, Reps K mg W ds vs → ns.length = ds.length → (ns.zip ds).lookup f = some dd → ∃ v, (ns.zip vs).lookup f = some v ∧ Rep K mg W dd v
  | [], _, _, _, _, h => by cases h
  | n :: ns, [], _, _, hl, _ => by simp at hl
  | n :: ns, e :: ds, vs, ⟨v, t, ev, rv, rt⟩, hl, h => by
    subst ev
    rw [List.zip_cons_cons, List.lookup_cons] at h ⊢
    cases q : f == n with
    | true =>
      rw [q] at h
      cases h
      exact ⟨v, rfl, rv⟩
    | false =>
      rw [q] at h
      exact lookup_zip rt (by simpa using hl) h
theorem itA_ok {K : PySem.W.Frag} {mg : Str → Option Value} {W : Wd} {a : Addr} {c : Str} {x : Exn} {d : Option Addr} {i : Nat} {σ : L2.St} {H : Hp} {cc : Str} (hc : cc = c) (hH : Same W.Hf H) (ea : ExAt K mg W x d) {l : List HI} {ds : List Dp.D} (hσ : ∀ f, HI.fld f ∈ l → σ[i]? = some (some (.ref a))) (hl : hiL x c l = some ds) :
    ∃ vs, Reps K mg W ds vs ∧ ∀ Q : List V → Hp → Prop, Q vs H → itA a (.ref (He.ga K x.c)) d (He.ga K c) i l σ H Q := by
  induction l generalizing ds with
  | nil =>
    cases hl
    exact ⟨[], rfl, fun Q q => q⟩
  | cons it l ih =>
    unfold hiL at hl
    cases e1 : hiV x c it with
    | none => rw [e1] at hl; cases hl
    | some d1 =>
      rw [e1] at hl
      cases e2 : hiL x c l with
      | none => rw [e2] at hl; cases hl
      | some dl =>
        rw [e2] at hl
        cases hl
        obtain ⟨vs, r, k⟩ := ih (fun f hf => hσ f (List.mem_cons_of_mem _ hf)) e2
        cases it with
        | str y =>
          cases e1
          exact ⟨.str y :: vs, ⟨_, _, rfl, rfl, r⟩, fun Q q => k _ q⟩
        | int n =>
          cases e1
          exact ⟨.int n :: vs, ⟨_, _, rfl, rfl, r⟩, fun Q q => k _ q⟩
        | fld f =>
          have e1' : (if x.c = c then (x.ns.zip x.ds).lookup f else none) = some d1 := e1
          split at e1'
          · rename_i hxc
            rcases ea with ⟨n0, _, _⟩ | ⟨dd, us, rfl, hd, hn, ru⟩
            · rw [n0] at e1'
              cases e1'
            · obtain ⟨v, hv, rv⟩ := lookup_zip ru hn e1'
              exact ⟨v :: vs, ⟨_, _, rfl, rv, r⟩, fun Q q => ⟨_, hσ f (List.mem_cons_self ..), rfl, by rw [hxc], dd, _, v, rfl, hH _ _ hd, hv, k _ q⟩⟩
          · cases e1'
def tSu (a : Addr) (cls : Value) (d : Option Addr) (C : Addr) (i : Nat) : HS → TS
  | .retL l => fun D σ H => itA a cls d C i l σ H fun vs H1 => vs.length ≤ sizeLine ∧ ∀ p, H1 p = none → D.rt (.ref p) (upd H1 p (.lst vs))
  | .retB b => fun D _ H => D.rt (.bl b) H
  | .asgL t l => fun D σ H => itA a cls d C i l σ H fun vs H1 => vs.length ≤ sizeLine ∧ ∀ p, H1 p = none → D.nx (σ.set t (some (.ref p))) (upd H1 p (.lst vs))
theorem HoldF.wipe1 {K : PySem.W.Frag} {mg : Str → Option Value} {Wl W : Wd} {s : Sl} {m : Mu} {σ : L2.St} {H : Hp} (h : HoldF K mg W0 H0 Wl W s m σ H) (i : Nat) : HoldF K mg W0 H0 Wl W (s.set i none) m (σ.set i none) H := by
  refine ⟨h.h.wipe [i], h.st, fun j c b e1 e2 => ?_, h.le⟩
  by_cases hj : i = j
  · subst hj
    by_cases il : i < s.length
    · rw [List.getElem?_set_self il] at e1
      cases e1
    · rw [List.getElem?_eq_none (by simpa using il)] at e1
      cases e1
  · rw [List.getElem?_set_ne hj] at e1 e2
    exact h.of j c b e1 e2
/-- a clause without a name reads no field -/
def flB (h : Hc) : Bool := match h.nm, h.su with
  | none, .retL l => l.all fun i => match i with | .fld _ => false | _ => true
  | none, .asgL _ l => l.all fun i => match i with | .fld _ => false | _ => true
  | _, _ => true
def clzOf (X : Cx) (h : Hc) : Clz := ⟨.ref (He.ga X.K h.cls), h.nm.map fun i => (i, (X.N[i]?).getD ""), fun a cls d => tSu a cls d (He.ga X.K h.cls) (h.nm.getD 0) h.su⟩
theorem hds_ok {G : Prog} (xx : Xx G X.prog X.K X.mg) {D : Ends} {x : Exn} : ∀ {hs : List Hc} {Wl W : Wd} {s : Sl} {m : Mu} {σ : L2.St} {H : Hp} {d : Option Addr}, (hs.all flB) = true → OutS X.K X.mg Wx W0 H0 Wl (hdS G x hs s m) D → HoldF X.K X.mg W0 H0 Wl W s m σ H → ExAt X.K X.mg W x d →
    wClz X.K Wx D (hs.map (clzOf X)) (.ref (He.ga X.K x.c)) d σ H
  | [], Wl, W, s, m, σ, H, d, _, o, h, ea => o W σ d H h ea
  | hc :: hs, Wl, W, s, m, σ, H, d, hf, o, h, ea => by
    rw [List.all_cons, Bool.and_eq_true] at hf
    unfold hdS at o
    cases el : G.exm.lookup (x.c, hc.cls) with
    | none => rw [el] at o; exact o.elim
    | some b =>
      rw [el] at o
      refine ⟨b, (xx.mat _ (mem_of_lookup el)).1, fun hb a na => ?_, fun hb => ?_⟩
      · subst hb
        dsimp only at o
        split at o
        · rename_i hi
          have fin : ∀ (i : Nat) (σ2 : L2.St), (∀ l f, (hc.su = .retL l ∨ ∃ t, hc.su = .asgL t l) → HI.fld f ∈ l → σ2[i]? = some (some (.ref a))) → ∀ D2 : Ends, D2.rt = D.rt →
              (∀ (t : Nat) (ds : List Dp.D) (W' : Wd) (p : Addr) (H' : Hp), some t ≠ hc.nm → HoldF X.K X.mg W0 H0 Wl W' (s.set t (some (.own (.lst ds)))) m (σ.set t (some (.ref p))) H' → OutS X.K X.mg Wx W0 H0 Wl (.nx (offS hc.nm (s.set t (some (.own (.lst ds))))) m) D → D2.nx (σ2.set t (some (.ref p))) H') →
              tSu a (.ref (He.ga X.K x.c)) d (He.ga X.K hc.cls) i hc.su D2 σ2 H := fun i σ2 hs2 D2 hD hX => by
            cases esu : hc.su with
            | retB bb =>
              rw [esu] at o
              show D2.rt _ _
              rw [hD]
              exact o W (.bl bb) H h.h.toSt0 h.st rfl
            | retL l =>
              rw [esu] at o
              dsimp only at o
              cases eh : hiL x hc.cls l with
              | none => rw [eh] at o; exact o.elim
              | some ds =>
                rw [eh] at o
                dsimp only at o
                split at o
                · rename_i hz
                  obtain ⟨vs, r, k⟩ := itA_ok (i := i) (σ := σ2) (cc := hc.cls) rfl h.h.sub ea (fun f hf2 => hs2 l f (.inl esu) hf2) eh
                  refine k _ ⟨by rw [← r.length]; exact hz, fun p hp => ?_⟩
                  rw [hD]
                  obtain ⟨x2, p2, nf, nt⟩ := h.h.toSt0.made hp (.lst vs)
                  exact o W (.ref p) _ x2 (h.st.trans h.h.toSt0 p2) (rb_sv W0 H0 W H m W _ (.own (.lst ds)) _ h.h.toSt0 h.st p2 ⟨p, rfl, ⟨⟨vs, upd_same, r⟩, nf, nt⟩, hp⟩)
                · exact o.elim
            | asgL t l =>
              rw [esu] at o
              dsimp only at o
              cases eh : hiL x hc.cls l with
              | none => rw [eh] at o; exact o.elim
              | some ds =>
                rw [eh] at o
                dsimp only at o
                split at o
                · rename_i hz
                  obtain ⟨vs, r, k⟩ := itA_ok (i := i) (σ := σ2) (cc := hc.cls) rfl h.h.sub ea (fun f hf2 => hs2 l f (.inr ⟨t, esu⟩) hf2) eh
                  refine k _ ⟨by rw [← r.length]; exact hz.1, fun p hp => ?_⟩
                  obtain ⟨x2, p2, nf, nt⟩ := h.h.toSt0.made hp (.lst vs)
                  have h2 := h.step p2 x2
                  refine hX t ds W p _ hz.2 (h2.putO t ⟨⟨vs, upd_same, r⟩, nf, nt⟩ ?_ fun j c' e1 e2 => ?_) o
                  · cases z : H0 p with
                    | none => rfl
                    | some u =>
                      by_cases ht : p ∈ W0.th
                      · obtain ⟨more, e1, _⟩ := h.st.th
                        exact absurd (by rw [e1]; exact List.mem_append_left _ ht) nt
                      · rw [h.st.keep p u z ht] at hp
                        cases hp
                  · obtain ⟨b, e3, ow⟩ := h.h.own j c' e1
                    rw [e2] at e3
                    cases e3
                    obtain ⟨u, eu⟩ := ow.at_.ex
                    rw [hp] at eu
                    cases eu
                · exact o.elim
          show match (clzOf X hc).nm with | none => (clzOf X hc).ts a (.ref (He.ga X.K x.c)) d D σ H | some p => (clzOf X hc).ts a (.ref (He.ga X.K x.c)) d (offD p.1 D) (σ.set p.1 (some (.ref a))) H
          cases en : hc.nm with
          | none =>
            have e1 : (clzOf X hc).nm = none := by show Option.map _ hc.nm = none; rw [en]; rfl
            rw [e1]
            refine fin _ σ (fun l f e2 e3 => ?_) D rfl fun t ds W' p H' _ h2 o2 => ?_
            · have q := hf.1
              unfold flB at q
              rcases e2 with e2 | ⟨t, e2⟩
              · rw [en, e2] at q
                have q2 := List.all_eq_true.mp q _ e3
                cases q2
              · rw [en, e2] at q
                have q2 := List.all_eq_true.mp q _ e3
                cases q2
            · rw [en] at o2
              exact o2 W' _ H' h2
          | some i =>
            have e1 : (clzOf X hc).nm = some (i, (X.N[i]?).getD "") := by show Option.map _ hc.nm = _; rw [en]; rfl
            rw [e1]
            have e2 : hc.nm.getD 0 = i := by rw [en]; rfl
            have hi2 : decide (i < s.length) = true := by unfold nmOk at hi; rw [en] at hi; exact hi
            show tSu a _ d (He.ga X.K hc.cls) (hc.nm.getD 0) hc.su (offD i D) (σ.set i (some (.ref a))) H
            rw [e2]
            refine fin i _ (fun _ _ _ _ => List.getElem?_set_self (by rw [← h.h.slen]; exact of_decide_eq_true hi2)) (offD i D) rfl fun t ds W' p H' ht h2 o2 => ?_
            have hti : i ≠ t := fun z => ht (by rw [en, z])
            show D.nx (((σ.set i (some (.ref a))).set t (some (.ref p))).set i none) H'
            rw [List.set_comm _ _ hti, List.set_set]
            rw [en] at o2
            exact o2 W' _ H' (h2.wipe1 i)
        · exact o.elim
      · subst hb
        exact hds_ok xx hf.2 o h ea
end
end Dp
end

section
set_option Elab.async false
set_option linter.all false
set_option maxRecDepth 100000
set_option maxHeartbeats 4000000
/-! The deep layer, part 17: does the small syntax say what the text says? -/
namespace Dp
open PySem PySem.Spec PyProof.Rows L2
/-- where a piece of text stands -/
structure MC where
  N : List Str
  sc : Scope
  fn : Bool
def MC.blk (c : MC) (scope : Scope) : MC := ⟨c.N, relS scope c.sc, false⟩
structure Mat (c : MC) (X : Cx) : Prop where
  N : X.N = c.N
  sc : X.env.scope = c.sc
  fn : c.fn = true → ∀ x, X.fn x = true
def visB (sc : Scope) (x : Str) : Bool := match sc.names.lookup x with
  | some .local => true
  | some .cell => true
  | some .free => true
  | _ => false
def glB (sc : Scope) (x : Str) : Bool := match sc.names.lookup x with
  | some .globalImplicit => true
  | _ => false
def locB (c : MC) (x : Str) : Bool := match c.sc.names.lookup x with
  | some .local => true
  | some .cell => c.fn
  | _ => false
def nmB (c : MC) (x : Str) (i : Nat) : Bool := decide (c.N[i]? = some x) && (visB c.sc x && (!(x == ("__debug__" : Str)) && !(x == ("__classdict__" : Str))))
def plainTest : Expr → Bool
  | .UnaryOp .Not _ _ => false
  | .BoolOp .. => false
  | .IfExp .. => false
  | .Compare .. => false
  | _ => true
def noSet : Expr → Bool
  | .Set .. => false
  | _ => true
section
variable {c : MC} {X : Cx} (M : Mat c X)
theorem nm_ok {x : Str} {i : Nat} {pos : Pos} (M : Mat c X) (h : nmB c x i = true) : PE X (.Name x pos) (tVar i) := by
  unfold nmB at h
  simp only [Bool.and_eq_true, decide_eq_true_eq, Bool.not_eq_true'] at h
  obtain ⟨h1, h2, h3, h4⟩ := h
  refine pe_var (by rw [M.N]; exact h1) ?_ h3 h4
  unfold visB at h2
  unfold Vis
  rw [M.sc]
  split at h2
  · rename_i e; exact .inl e
  · rename_i e; exact .inr (.inl e)
  · rename_i e; exact .inr (.inr e)
  · cases h2
theorem gl_ok {x : Str} (M : Mat c X) (h : glB c.sc x = true) : Gl X x := by
  unfold glB at h
  show X.env.scope.names.lookup x = some .globalImplicit
  rw [M.sc]
  split at h
  · assumption
  · cases h
theorem loc_ok {x : Str} (M : Mat c X) (h : locB c x = true) : Loc X.env.scope x ∧ (X.fn x = true ∨ X.env.scope.names.lookup x = some .local) := by
  unfold locB at h
  unfold L2.Loc
  rw [M.sc]
  split at h
  · rename_i e; exact ⟨.inl e, .inr e⟩
  · rename_i e; exact ⟨.inr e, .inl (M.fn h x)⟩
  · cases h
theorem set_ok {e : Expr} (h : noSet e = true) : ∀ x, foldedSetIterable e X.env x = pure x := by
  intro x
  cases e <;> first | rfl | cases h
theorem test_ok {a : Expr} {env : Env} (h : plainTest a = true) : ∀ whole, isTrue a env whole = (do let v ← whole; standAt a.pos; holding [v] (truthy v)) := by
  intro whole
  cases a <;> first
    | rfl
    | (cases h; done)
    | (rename_i op x p; cases op <;> first | rfl | cases h)
theorem ix_ok {b : Expr} (h : noSlc b = true) : PlainIx b := by
  intro o i
  cases b <;> first | rfl | cases h
end
def tyList : List Ty → List Expr → Bool
  | [], [] => true
  | t :: ts, .Name y _ :: es => decide (y = tyNm t) && tyList ts es
  | _, _ => false
section
variable (G : Prog)
def tyOkB (c : MC) (t : Ty) : Bool := tyIn G t && glB c.sc (tyNm t)
def fnB (c : MC) (k : Nat) (x : Str) : Bool := (match G.fns[k]? with
  | some f => decide (f.at_.2 = none) && decide (f.at_.1 = x)
  | none => false) && (!(x == ("__debug__" : Str)) && glB c.sc x)
def mT (c : MC) : T → Expr → Bool
  | .nm i, .Name x _ => decide (c.N[i]? = some x) && locB c x
  | .tp l, .Tuple es _ _ => decide (l.length = es.length) && (l.zip es).all fun p => match p.2 with
    | .Name x _ => decide (c.N[p.1]? = some x) && locB c x
    | _ => false
  | .tl l, .Tuple es _ _ => decide (l.length = es.length) && (l.zip es).all fun p => match p.2 with
    | .Name x _ => decide (c.N[p.1]? = some x) && locB c x
    | _ => false
  | _, _ => false
mutual
def mE : E → MC → Expr → Bool
  | .var i, c, a => (match a with | .Name x _ => nmB c x i | _ => false)
  | .int n, _, a => (match a with | .Constant (.int k) _ _ => decide (n = k) | _ => false)
  | .bl n, _, a => (match a with | .Constant (.bool k) _ _ => decide (n = k) | _ => false)
  | .non, _, a => (match a with | .Constant .none _ _ => true | _ => false)
  | .str n, _, a => (match a with | .Constant (.str k) _ _ => decide (n = k) | _ => false)
  | .gint x n, c, a => (match a with | .Name y _ => decide (x = y) && (glB c.sc x && (!(x == ("__debug__" : Str)) && decide ((x, n) ∈ G.gints))) | _ => false)
  | .gdef _, _, _ => false
  | .bin o x y, c, a => (match a with | .BinOp l op r _ => decide (op = boOp o) && (mP x c l && mP y c r) | _ => false)
  | .neg x, c, a => (match a with | .UnaryOp .USub l _ => mE x c l | _ => false)
  | .cmp o x y, c, a => (match a with | .Compare l [op] [r] _ => decide (op = coOp o) && (mP x c l && (mP y c r && !behindInMarks op r)) | _ => false)
  | .chn o p x y z, c, a => (match a with | .Compare l [o1, o2] [q, r] _ => decide (o1 = coOp o) && (decide (o2 = coOp p) && (mE x c l && (mE y c q && (mE z c r && !lastMarks [o1, o2] [q, r])))) | _ => false)
  | .not x, c, a => (match a with | .UnaryOp .Not l _ => mE x c l | _ => false)
  | .and es, c, a => (match a with | .BoolOp .And vs _ => mAnd es c vs | _ => false)
  | .or es, c, a => (match a with | .BoolOp .Or vs _ => mAnd es c vs | _ => false)
  | .ife t x y, c, a => (match a with | .IfExp q l r _ => mB t c q && (mE x c l && mE y c r) | _ => false)
  | .tup es, c, a => (match a with | .Tuple vs _ _ => mEs es c vs | _ => false)
  | .lst es, c, a => (match a with | .List vs _ => mEs es c vs | _ => false)
  | .idx x y, c, a => (match a with | .Subscript l r _ => noSlc r && (mP x c l && mE y c r) | _ => false)
  | .slc x lo hi, c, a => (match a with | .Subscript l (.Slice lo' hi' none _) _ => mP x c l && (mO lo c lo' && mO hi c hi') | _ => false)
  | .call k es, c, a => (match a with | .Call (.Name x _) args [] _ => fnB G c k x && mEs es c args | _ => false)
  | .new cn k es, c, a => (match a with | .Call (.Name x _) (e :: args) [] _ => decide (cn = x) && (decide ((cn, k) ∈ G.news) && (!(cn == ("__debug__" : Str)) && (glB c.sc cn && mEs es c (e :: args)))) | _ => false)
  | .meth o m cs es, c, a => (match a with | .Call (.Attribute o' m' apos) args [] pos => decide (m = m') && (noSup o' && (apos.endLine == pos.line && (decide (args.length < 30) && ((cs.all fun p => decide (((p.1, m), p.2) ∈ G.mets)) && (mE o c o' && mEs es c args))))) | _ => false)
  | .attr o f, c, a => (match a with | .Attribute o' f' _ => decide (f = f') && (noSup o' && mP o c o') | _ => false)
  | .bif f es, c, a => (match a with
    | .Call (.Name x _) (e :: args) [] _ => decide (f ≠ .sortedR) && (decide (x = Str.ofString (bfName f)) && (glB c.sc x && mPs es c (e :: args)))
    | .Call (.Name x _) [e] [⟨some kw, .Constant (.bool true) _ _, _⟩] _ => decide (f = .sortedR) && (decide (x = Str.ofString "sorted") && (decide (kw = Str.ofString "reverse") && (glB c.sc x && mPs es c [e])))
    | _ => false)
  | .leno x ks, c, a => (match a with | .Call (.Name y _) [e] [] _ => decide (y = Str.ofString "len") && (glB c.sc y && ((ks.all fun p => decide (((p.1, Str.ofString "__len__"), p.2) ∈ G.mets)) && (noStar e && mE x c e))) | _ => false)
  | .isi x t, c, a => (match a with | .Call (.Name y _) [e, .Name z _] [] _ => decide (y = Str.ofString "isinstance") && (glB c.sc y && (decide (z = tyNm t) && (tyOkB G c t && (noStar e && mE x c e)))) | _ => false)
  | .isis x ts, c, a => (match a with | .Call (.Name y _) [e, .Tuple zs _ _] [] _ => decide (y = Str.ofString "isinstance") && (glB c.sc y && (!ts.isEmpty && (decide (ts.length < 30) && (tyList ts zs && (ts.all (tyOkB G c) && (noStar e && mE x c e)))))) | _ => false)
  | .lc t own it cd e, c, a => (match a with | .ListComp elt [⟨tg, iter, ifs, isa⟩] scope _ => decide (isa = 0) && (noSet iter && (blkC c.N c.sc scope own && ((t.slots.all fun i => decide (i ∈ own.map (·.2))) && (mT (c.blk scope) t tg && (mI it c tg iter && (mOB cd (c.blk scope) ifs && mE e (c.blk scope) elt)))))) | _ => false)
  | .mpop o, c, a => (match a with | .Call (.Attribute o' m' apos) [] [] pos => decide (m' = Str.ofString "pop") && (noSup o' && (apos.endLine == pos.line && mE o c o')) | _ => false)
  | .mpopI o x, c, a => (match a with | .Call (.Attribute o' m' apos) [e] [] pos => decide (m' = Str.ofString "pop") && (noSup o' && (apos.endLine == pos.line && (noStar e && (mE o c o' && mE x c e)))) | _ => false)
  | .dget o x y, c, a => (match a with | .Call (.Attribute o' m' apos) [l, r] [] pos => decide (m' = Str.ofString "get") && (noSup o' && (apos.endLine == pos.line && (noStar l && (noStar r && (mP o c o' && (mE x c l && mE y c r)))))) | _ => false)
  | .dset x y, c, a => (match a with | .Dict [some k] [v] _ => mE x c k && mE y c v | _ => false)
  | .inm neg x o ks, c, a => (match a with | .Compare l [op] [r] _ => decide (op = inmOp neg) && (!behindInMarks op r && ((ks.all fun p => decide (((p.1, Str.ofString "__contains__"), p.2) ∈ G.mets)) && (mE x c l && mE o c r))) | _ => false)
  | .dnew _, _, a => (match a with | .Dict [] [] _ => true | _ => false)
  | .prop o f cs, c, a => (match a with | .Attribute o' f' _ => decide (f = f') && (noSup o' && ((cs.all fun p => decide (((p.1, f), p.2) ∈ G.props)) && mE o c o')) | _ => false)
  | .cmeth cn m k es, c, a => (match a with | .Call (.Attribute (.Name x _) m' apos) (e :: args) [] pos => decide (cn = x) && (decide (m = m') && (decide (((cn, m), k) ∈ G.cms) && (!(cn == ("__debug__" : Str)) && (glB c.sc cn && (apos.endLine == pos.line && (decide ((e :: args).length < 30) && mEs es c (e :: args))))))) | _ => false)
  | .newv i cn k es, c, a => (match a with | .Call (.Name x _) (e :: args) [] _ => nmB c x i && (decide ((cn, k) ∈ G.news) && mEs es c (e :: args)) | _ => false)
  | .bop o ks x y, c, a => (match a with | .BinOp l op r _ => decide (op = boOp o) && ((ks.all fun p => decide (((p.1, o), p.2) ∈ G.ops)) && (mE x c l && mE y c r)) | _ => false)
  | .dc _ t own it cd k v, c, a => (match a with | .DictComp ke ve [⟨tg, iter, ifs, isa⟩] scope _ => decide (isa = 0) && (noSet iter && (blkC c.N c.sc scope own && ((t.slots.all fun i => decide (i ∈ own.map (·.2))) && (mT (c.blk scope) t tg && (mI it c tg iter && (mOB cd (c.blk scope) ifs && (mE k (c.blk scope) ke && mE v (c.blk scope) ve))))))) | _ => false)
  | .lcd i t own cd e, c, a => (match a with | .ListComp elt [⟨tg, .Name x _, ifs, isa⟩] scope _ => decide (isa = 0) && (nmB c x i && (blkC c.N c.sc scope own && ((t.slots.all fun i => decide (i ∈ own.map (·.2))) && (mT (c.blk scope) t tg && (mOB cd (c.blk scope) ifs && mE e (c.blk scope) elt))))) | _ => false)
  | .lco i t own cd e, c, a => (match a with | .ListComp elt [⟨tg, .Name x _, ifs, isa⟩] scope _ => decide (isa = 0) && (nmB c x i && (blkC c.N c.sc scope own && ((t.slots.all fun i => decide (i ∈ own.map (·.2))) && (mT (c.blk scope) t tg && (mOB cd (c.blk scope) ifs && mE e (c.blk scope) elt))))) | _ => false)
def mEs : Es → MC → List Expr → Bool
  | .nil, _, l => (match l with | [] => true | _ => false)
  | .cons e r, c, l => (match l with | a :: as => noStar a && (mE e c a && mEs r c as) | _ => false)
def mAnd : Es → MC → List Expr → Bool
  | .nil, _, _ => false
  | .cons e r, c, l => (match r, l with
    | .nil, [a] => mE e c a
    | .cons _ _, a :: b :: as => mE e c a && mAnd r c (b :: as)
    | _, _ => false)
def mP : P → MC → Expr → Bool
  | .e e, c, a => mE e c a
  | .sl i, c, a => (match a with | .Name x _ => nmB c x i | _ => false)
def mPs : Ps → MC → List Expr → Bool
  | .nil, _, l => (match l with | [] => true | _ => false)
  | .cons e r, c, l => (match l with | a :: as => noStar a && (mP e c a && mPs r c as) | _ => false)
def mO : O → MC → Option Expr → Bool
  | .none, _, o => (match o with | none => true | _ => false)
  | .some e, c, o => (match o with | some a => mE e c a | _ => false)
def mOB : OB → MC → List Expr → Bool
  | .none, _, l => (match l with | [] => true | _ => false)
  | .some b, c, l => (match l with | [a] => mB b c a | _ => false)
def mB : B → MC → Expr → Bool
  | .e p, c, a => plainTest a && mP p c a
  | .cmp o x y, c, a => (match a with | .Compare l [op] [r] _ => decide (op = coOp o) && (mP x c l && (mP y c r && !behindInMarks op r)) | _ => false)
  | .chn o p x y z, c, a => (match a with | .Compare l [o1, o2] [q, r] _ => decide (o1 = coOp o) && (decide (o2 = coOp p) && (mE x c l && (mE y c q && (mE z c r && !lastMarks [o1, o2] [q, r])))) | _ => false)
  | .not x, c, a => (match a with | .UnaryOp .Not l _ => mB x c l | _ => false)
  | .and bs, c, a => (match a with | .BoolOp .And vs _ => mBs bs c vs | _ => false)
  | .or bs, c, a => (match a with | .BoolOp .Or vs _ => mBs bs c vs | _ => false)
  | .inm neg x o ks, c, a => (match a with | .Compare l [op] [r] _ => decide (op = inmOp neg) && (!behindInMarks op r && ((ks.all fun p => decide (((p.1, Str.ofString "__contains__"), p.2) ∈ G.mets)) && (mE x c l && mE o c r))) | _ => false)
def mBs : Bs → MC → List Expr → Bool
  | .nil, _, _ => false
  | .cons b r, c, l => (match r, l with
    | .nil, [a] => mB b c a
    | .cons _ _, a :: a2 :: as => mB b c a && mBs r c (a2 :: as)
    | _, _ => false)
def mI : I → MC → Expr → Expr → Bool
  | .seq e, c, _, a => mE e c a
  | .rng1 e, c, _, a => (match a with | .Call (.Name y _) [l] [] _ => decide (y = Str.ofString "range") && (glB c.sc y && (noStar l && mE e c l)) | _ => false)
  | .rng2 e f, c, _, a => (match a with | .Call (.Name y _) [l, r] [] _ => decide (y = Str.ofString "range") && (glB c.sc y && (noStar l && (noStar r && (mE e c l && mE f c r)))) | _ => false)
  | .enum e, c, tg, a => (match tg, a with | .Tuple _ _ _, .Call (.Name y _) [l] [] _ => decide (y = Str.ofString "enumerate") && (glB c.sc y && (noStar l && mE e c l)) | _, _ => false)
  | .zip e f, c, tg, a => (match tg, a with | .Tuple _ _ _, .Call (.Name y _) [l, r] [] _ => decide (y = Str.ofString "zip") && (glB c.sc y && (noStar l && (noStar r && (mE e c l && mE f c r)))) | _, _ => false)
  | .rev e, c, _, a => (match a with | .Call (.Name y _) [l] [] _ => decide (y = Str.ofString "reversed") && (glB c.sc y && (noStar l && mE e c l)) | _ => false)
  | .revr e, c, _, a => (match a with | .Call (.Name y _) [.Call (.Name z _) [l] [] _] [] _ => decide (y = Str.ofString "reversed") && (decide (z = Str.ofString "range") && (glB c.sc y && (glB c.sc z && (noStar l && mE e c l)))) | _ => false)
end
end
end Dp
end

section
set_option Elab.async false
set_option linter.all false
set_option maxRecDepth 100000
set_option maxHeartbeats 1000000
/-! dict comprehensions with keys of either kind. -/
namespace Dp
open PySem PySem.Spec PyProof.Rows L2
section
variable {X : Cx} {pz : List (Addr × Obj)} {τ : L2.St} {H : Hp} {s : Shared} {a : Addr} {y v : V} {u r : Value} {A : Around} {E : Value → Shared → Prop}
/-- d[y] = v by a comprehension -/
theorem d_dset {H2 : Hp} {Q : Unit → Shared → Prop} (hu : A.units + 1 < cLine) (I : L2.Inv X pz τ H s) (g : DPut H a y v H2) (ry : RelV y u) (rv : RelV v r) (h : ∀ t, L2.Inv X pz τ H2 t → Q () t) : wpAny (model X.prog X.w) A (dictSet a u r) Q E s := by
  rcases g with ⟨kvs, k, e1, ey, l, eH⟩ | ⟨kvs, k, b, e1, ey, eb, l, eH⟩
  · subst ey eH
    obtain ⟨z, hd, vs, rel, dd⟩ := dk_of I.hok e1
    have z2 : vs.length ≤ sizeLine := by rw [← rel.length]; exact z
    have z3 : (putK kvs k v).length ≤ sizeLine := by have := length_putK kvs k v; omega
    refine wpAny_dictSet_pairs (hsz := z2) (kV_is ry) dd fun hp dq hs => h _ ?_
    have ex : ∃ q, hp.get? a = some q := let ⟨q, _, _, hq, _⟩ := dq; ⟨q, hq⟩
    exact d_write I (by rw [e1]; exact True.intro) hs ex (dk_new z3 hd (rel.put k rv) dq)
  · subst ey eH
    cases (show u = Value.ref b from ry)
    obtain ⟨z, hd, xs, rel, dd⟩ := dt_of I.hok e1
    have z2 : xs.length ≤ sizeLine := by rw [← Paired.length rel]; exact z
    have z3 : (putK kvs k v).length ≤ sizeLine := by have := length_putK kvs k v; omega
    refine wpAny_dictSet_heap (hsz := z2) (show A.units < cLine from by omega) (key_of I.hok eb) dd fun hp dq hs => h _ ?_
    obtain ⟨q, es, ep, hq, w2, w3, w4, _, w5⟩ := dq
    refine d_write I (by rw [e1]; exact True.intro) hs ⟨q, hq⟩ ⟨z3, hd, _, (rel.put k eb rv).keeps fun c ys ec => ?_, q, es, ep, hq, w2, w3, w4, w5⟩
    rw [upd_ne (ne_of ec e1 (fun z => nomatch z))]
    exact ec
end
section
variable {X : Cx}
/-- {k: v for target in iter if ..}: D the new dict, o0 as it begins -/
def tDcg (o0 : HO) (wi : TI) (g : TG) (tt : TT) (tk tv : TE) (vs : List Nat) : TE := fun σ H Q => wi σ H fun J H1 => ∀ D, H1 D = none → ∃ W : Nat → Nat → Hp → Prop, (∃ m, W 0 m (upd H1 D o0)) ∧ ∀ i m H, W i m H →
  (J.stop i H ∧ Q (.ref D) H) ∨ (J.go i H ∧ ∃ Nx : Hp → Prop, (∀ H', Nx H' → ∃ m', m' < m ∧ W (i + 1) m' H') ∧ ∀ x H', J.yld i H x H' → g x (wipe σ vs) H' fun σ2 H2 => wipe σ2 vs = wipe σ vs ∧ tt σ2 H2 fun b H3 =>
    if b = true then tk σ2 H3 fun y H4 => tv σ2 H4 fun z H5 => ∃ H6, DPut H5 D y z H6 ∧ Nx H6 else Nx H3)
theorem dcg_core {pz : List (Addr × Obj)} {s : Shared} {τ : L2.St} {H : Hp} {Q : VK} {kex vex tge itr : Expr} {cnd : List Expr} {scp : Scope} {ow : List (Str × Nat)} {pos pos' : Pos} {wj : TI} {g : TG} {tt : TT} {tk tv : TE} {use : Option (Value → Sem Unit)} {Qf : Value → Shared → Prop}
    (hcm : X.calm = true) (hNd : X.N.Nodup) (I : Inv X pz τ H s) (hit : PI X tge itr wj) (okb : BlkOk X.N X.env.scope scp ow)
    (hgt : ∀ (s : Shared) (H : Hp) (Cc : Addr) (cl : List (Str × Addr)) (fpz : List Addr), PG (X.blk s H scp (compEnvC scp cl Cc X.env) fpz) tge g) (htt : ∀ (s : Shared) (H : Hp) (Cc : Addr) (cl : List (Str × Addr)) (fpz : List Addr), PTs (X.blk s H scp (compEnvC scp cl Cc X.env) fpz) cnd tt)
    (hkk : ∀ (s : Shared) (H : Hp) (Cc : Addr) (cl : List (Str × Addr)) (fpz : List Addr), PE (X.blk s H scp (compEnvC scp cl Cc X.env) fpz) kex tk)
    (hev : ∀ (s : Shared) (H : Hp) (Cc : Addr) (cl : List (Str × Addr)) (fpz : List Addr), PE (X.blk s H scp (compEnvC scp cl Cc X.env) fpz) vex tv) (hst : ∀ x, foldedSetIterable itr X.env x = pure x)
    (hu : X.A.units + 1 < cLine) {o0 : HO} (he0 : ∀ (H' : Hp) (hp : Heap), sysModules < hp.objs.size → ObjOk X.prog X.w H' (hp.push { cls := .type "dict", data := .dict #[] }) hp.objs.size o0) (h : tDcg o0 wj g tt tk tv (ow.map (·.2)) τ H Q)
    (hEnd : ∀ Dd Cc s' m H', Inv X pz τ H' s' → Q (.ref Dd) H' → s'.heap.Ns Cc m → FpOk X pz H' Cc → compPost (model X.prog X.w) X.A X.xe use Qf (.ref Dd) Cc (.ok .next) s') :
    wpAny (model X.prog X.w) X.A (comprehension (.DictComp kex vex [⟨tge, itr, cnd, 0⟩] scp pos) scp X.env pos' newDict false (eval itr X.env) use) Qf X.xe s := by
  have hfr : ∀ y ∈ scp.names, y.2 = .free → ∃ c, X.env.cells.lookup y.1 = some c := fun y hy eq_ => by
    rcases okb.free y hy eq_ with k | k
    · exact I.ok.has _ (.inl k)
    · exact I.ok.has _ (.inr k)
  refine wpAny_comprehension_free (use := use) rfl hst (closure_ok hfr) okb.kind (fun y hy eq_ => by rw [okb.uniq y hy, eq_])
    (thn (hit.run pz s τ H _ I h) fun xv z1 hx => thn hx fun itv z2 h2 => ?_)
  obtain ⟨it, fpz, tun, Jt, G2, eq_, J2, Tu, st_2, f2, q⟩ := h2
  subst eq_
  refine wpAny_newObj_type (newEnv_comp ?_)
  generalize hD : z2.heap.objs.size = Dd
  have hDn : G2 Dd = none := J2.hok.fresh (Nat.le_of_eq hD)
  obtain ⟨W, ⟨m0, w0⟩, trn⟩ := q Dd hDn
  -- the new list
  generalize hs3 : ({ z2 with heap := z2.heap.push { cls := .type "dict", data := .dict #[] } } : Shared) = z3
  have J3 : Inv X pz τ (upd G2 Dd o0) z3 := by
    rw [← hs3]
    refine J2.laid (t' := z2.toks) (fun bq oq eq_ => Heap.get?_push_of_some _ eq_) (Nat.le_of_eq hD) ?_
    rw [← hD]
    exact he0 _ z2.heap J2.big
  have h3 : z3.heap = z2.heap.push { cls := .type "dict", data := .dict #[] } := by rw [← hs3]
  have sz : ∀ bq ∈ fpz, bq < z2.heap.objs.size := fun bq hbq => by
    obtain ⟨oq, eq_, _⟩ := Tu.obj _ _ st_2 bq hbq
    exact Heap.lt_size eq_
  have f3 : ∀ bq ∈ fpz, FpOk X pz (upd G2 Dd o0) bq ∧ bq < z3.heap.objs.size := fun bq hbq => by
    have hlt := sz bq hbq
    refine ⟨⟨?_, (f2 bq hbq).2⟩, by rw [h3, Heap.size_push]; exact Nat.lt_succ_of_lt hlt⟩
    rw [upd_ne (by rw [← hD]; exact Nat.ne_of_lt hlt)]
    exact (f2 bq hbq).1
  have st_3 : tun 0 z3.heap := Tu.keep _ _ _ st_2 fun bq _ oq eq_ => by rw [h3]; exact Heap.get?_push_of_some _ eq_
  have J4 := block_start J3 okb hNd f3
  have pgt := hgt z3 (upd G2 Dd o0) z3.heap.objs.size (cellsFrom (z3.heap.objs.size + 1) scp.names (cloFrom X.env.cells scp.names [])) fpz
  have ptt := htt z3 (upd G2 Dd o0) z3.heap.objs.size (cellsFrom (z3.heap.objs.size + 1) scp.names (cloFrom X.env.cells scp.names [])) fpz
  have pkk := hkk z3 (upd G2 Dd o0) z3.heap.objs.size (cellsFrom (z3.heap.objs.size + 1) scp.names (cloFrom X.env.cells scp.names [])) fpz
  have pev := hev z3 (upd G2 Dd o0) z3.heap.objs.size (cellsFrom (z3.heap.objs.size + 1) scp.names (cloFrom X.env.cells scp.names [])) fpz
  show codeAny _ _ (.compStart (.DictComp kex vex [⟨tge, itr, cnd, 0⟩] scp pos) 0 (.ref it) (.ref Dd) (compEnvC scp (cellsFrom (z3.heap.objs.size + 1) scp.names (cloFrom X.env.cells scp.names [])) z3.heap.objs.size X.env)) (compPost (model X.prog X.w) X.A X.xe use Qf (.ref Dd) z3.heap.objs.size) { z3 with heap := pushCells (z3.heap.push { cls := .type "dict", data := .dict #[] }) scp.names }
  have nfp : ∀ bq ∈ fpz, (upd G2 Dd o0) bq = none := fun bq hbq => (f3 bq hbq).1.1
  generalize hce : compEnvC scp (cellsFrom (z3.heap.objs.size + 1) scp.names (cloFrom X.env.cells scp.names [])) z3.heap.objs.size X.env = cev at J4 pgt ptt pkk pev ⊢
  have cLo : cev.locals = z3.heap.objs.size := by subst hce; rfl
  generalize hH3 : upd G2 Dd o0 = G3 at J3 J4 pgt ptt pkk pev w0 nfp f3
  generalize hs4 : ({ z3 with heap := pushCells (z3.heap.push { cls := .type "dict", data := .dict #[] }) scp.names } : Shared) = z4 at J4 ⊢
  have st_4 : tun 0 z4.heap := Tu.keep _ _ _ st_3 fun bq _ oq eq_ => by rw [← hs4]; exact pushCells_keeps _ _ _ _ (Heap.get?_push_of_some _ eq_)
  have stz : ∀ {σ' : L2.St} {H' : Hp} {s' : Shared}, Inv (X.blk z3 G3 scp cev fpz) [] σ' H' s' → (∀ bq ∈ fpz, H' bq = none) → ∀ bq ∈ fpz, FpOk (X.blk z3 G3 scp cev fpz) [] H' bq := fun {σ' H' s'} I' hn bq hbq =>
    ⟨hn bq hbq, (I'.ok.exf bq hbq).1, I'.ok.exfs bq hbq, .inl hbq, fun x c eq_ => (I'.ok.exf bq hbq).2 x c eq_, fun p hp => absurd (show p ∈ ([] : List (Addr × Obj)) ++ [] from hp) (by simp)⟩
  have lp : codeAny (model X.prog X.w) X.A (.compLoop (.DictComp kex vex [⟨tge, itr, cnd, 0⟩] scp pos) 0 (.ref it) (.ref Dd) cev) (compPost (model X.prog X.w) X.A X.xe use Qf (.ref Dd) z3.heap.objs.size) z4 := by
    refine compLoop_anyD (fun n s' => ∃ i H', Inv (X.blk z3 G3 scp cev fpz) [] (wipe τ (ow.map (·.2))) H' s' ∧ tun i s'.heap ∧ (∀ bq ∈ fpz, H' bq = none) ∧ W i n H') ?_ m0 ⟨0, G3, J4, st_4, nfp, w0⟩
    rintro n z5 ⟨i, G5, J5, st_5, n_5, w_5⟩
    rcases trn i n G5 w_5 with ⟨stq, qq⟩ | ⟨go, Nxt, hNxt, stp⟩
    · have tdn := Tu.done (X.blk z3 G3 scp cev fpz) rfl rfl rfl hcm i [] z5 _ G5 (fun _ _ => False) J5 (stz J5 n_5) st_5 stq
      refine thnF tdn fun r z6 ⟨hr, J6⟩ => ?_
      subst hr
      -- back in the def's context
      have J7 : Inv X pz τ G5 z6 := J3.call' (ch := fpz) J6.os J6.base J6.hok J6.bare fun bq hbq => ⟨(f3 bq hbq).1.2.2.2.1, (f3 bq hbq).1.2.1, (f3 bq hbq).1.2.2.2.2.1, (f3 bq hbq).1.2.2.2.2.2⟩
      have nCc : G5 z3.heap.objs.size = none := by
        have z : G5 cev.locals = none := J6.free
        rw [cLo] at z
        exact z
      obtain ⟨m, hn, _⟩ := J6.loc
      have hn : z6.heap.Ns cev.locals m := hn
      rw [cLo] at hn
      exact hEnd Dd z3.heap.objs.size z6 m G5 J7 qq hn (J3.fpOk (Nat.le_refl _) nCc)
    · have tit := Tu.item (X.blk z3 G3 scp cev fpz) rfl rfl rfl hcm i [] z5 _ G5 (fun _ _ => False) J5 (stz J5 n_5) st_5 go
      refine thnF tit fun r z6 ⟨u, hr, h6⟩ => ?_
      subst hr
      refine thnF h6 fun _ z7 ⟨x, G7, J7, r7, y7, st_7, n_7⟩ => ?_
      have I7' := J7.pinned (stz J7 n_7) (Tu.obj _ _ st_7)
      refine thnF (pgt.run _ z7 _ G7 x u _ I7' r7 (stp x G7 y7)) fun _ z8 ⟨σ8, G8, J8, hw8, q8⟩ => ?_
      refine thnF (ptt.run _ z8 σ8 G8 _ J8 q8) fun bq z9 ⟨G9, J9, q9⟩ => ?_
      -- the turn's end
      have finz : ∀ {s' : Shared} {H' : Hp}, Inv (X.blk z3 G3 scp cev fpz) ([] ++ pinsAt fpz z7.heap) σ8 H' s' → Nxt H' → ∃ m, m < n ∧ ∃ i H', Inv (X.blk z3 G3 scp cev fpz) [] (wipe τ (ow.map (·.2))) H' s' ∧ tun i s'.heap ∧ (∀ bq ∈ fpz, H' bq = none) ∧ W i m H' := fun {s' H'} I' nx => by
        obtain ⟨m', hm, w'⟩ := hNxt H' nx
        have pin' : ∀ bq ∈ fpz, ∀ oq, z7.heap.get? bq = some oq → s'.heap.get? bq = some oq ∧ H' bq = none := fun bq hbq oq eq_ =>
          let z := I'.pin (bq, oq) (List.mem_append_right _ (List.mem_append_right _ (mem_pinsAt hbq eq_)))
          ⟨z.1, z.2.1⟩
        have hl : (wipe τ (ow.map (·.2))).length = σ8.length := by rw [← hw8, wipe_length]
        refine ⟨m', hm, i + 1, H', (I'.unpinned (pins := [])).weak hl (fun j v eq_ => ?_), Tu.keep _ _ _ st_7 fun bq hbq oq eq_ => (pin' bq hbq oq eq_).1, fun bq hbq => ?_, w'⟩
        · rw [← hw8] at eq_
          exact (wipe_some eq_).1
        · obtain ⟨oq, eq_, _⟩ := Tu.obj _ _ st_7 bq hbq
          exact (pin' bq hbq oq eq_).2
      cases bq with
      | false =>
        simp only [Bool.false_eq_true, if_false] at q9 ⊢
        exact finz J9 q9
      | true =>
        simp only [if_true] at q9 ⊢
        refine thnF (pkk.run _ z9 σ8 G9 _ J9 q9) fun z z10 ⟨yk, G10, J10, r10, q10⟩ => ?_
        refine thnF (pev.run _ z10 σ8 G10 _ J10 q10) fun z2 z11 ⟨yv, G11, J11, r11, G12, hp, nx⟩ => ?_
        exact d_dset (X := X.blk z3 G3 scp cev fpz) hu J11 hp r10 r11 fun z12 J12 => finz J12 nx
  exact codeAny_compStart_dict lp (Tu.self X.A 0 _ _ _ st_4 lp)
/-- as a value -/
theorem pe_dcg {kex vex tge itr : Expr} {cnd : List Expr} {scp : Scope} {ow : List (Str × Nat)} {pos : Pos} {wj : TI} {g : TG} {tt : TT} {tk tv : TE} (hcm : X.calm = true) (hNd : X.N.Nodup) (hit : PI X tge itr wj) (okb : BlkOk X.N X.env.scope scp ow)
    (hgt : ∀ (s : Shared) (H : Hp) (Cc : Addr) (cl : List (Str × Addr)) (fpz : List Addr), PG (X.blk s H scp (compEnvC scp cl Cc X.env) fpz) tge g) (htt : ∀ (s : Shared) (H : Hp) (Cc : Addr) (cl : List (Str × Addr)) (fpz : List Addr), PTs (X.blk s H scp (compEnvC scp cl Cc X.env) fpz) cnd tt)
    (hkk : ∀ (s : Shared) (H : Hp) (Cc : Addr) (cl : List (Str × Addr)) (fpz : List Addr), PE (X.blk s H scp (compEnvC scp cl Cc X.env) fpz) kex tk)
    (hev : ∀ (s : Shared) (H : Hp) (Cc : Addr) (cl : List (Str × Addr)) (fpz : List Addr), PE (X.blk s H scp (compEnvC scp cl Cc X.env) fpz) vex tv) (hst : ∀ x, foldedSetIterable itr X.env x = pure x) (hu : X.A.units + 1 < cLine)
    {o0 : HO} (he0 : ∀ (H' : Hp) (hp : Heap), sysModules < hp.objs.size → ObjOk X.prog X.w H' (hp.push { cls := .type "dict", data := .dict #[] }) hp.objs.size o0) :
    PE X (.DictComp kex vex [⟨tge, itr, cnd, 0⟩] scp pos) (tDcg o0 wj g tt tk tv (ow.map (·.2))) := by
  refine ⟨fun pz s τ H Q I h => ?_⟩
  rw [arm_eval_DictComp]
  refine dcg_core hcm hNd I hit okb hgt htt hkk hev hst hu he0 h fun Dd Cc s' m H' I' q hn f => ⟨m, hn, fun h'' sb => ?_⟩
  obtain ⟨f0, f1, f2, f3, f4, f5⟩ := f
  exact ⟨.ref Dd, H', I'.turned (t' := s'.toks) (fun bq oq hbq eq_ => (sb.2 bq hbq).trans eq_) f0 f1 f3 f4 f5, rfl, q⟩

end
end Dp
end

section
set_option Elab.async false
set_option linter.all false
set_option maxRecDepth 100000
set_option maxHeartbeats 4000000
/-! properties, classmethods, classes in a name, own operators. -/
namespace PySem.W
open PySem PySem.Calls PyProof.Rows
section
variable {prog : Program} {w : World} {A : Around} {E : Value → Shared → Prop} {s : Shared} {K : Frag} {x C L f b : Addr} {h₀ : Heap} {m : Str → Option Value} {ox ob : Obj} {od oe : Option Obj}
/-- an own operator between two of one class -/
theorem dp_binC {op : Operator} {Q : Value → Shared → Prop} (X₀ : K.In s.heap) (I : InstAt s.heap x ox C od) (J : InstAt s.heap b ob C oe) (hc : selfFirst K C = true)
    (hs : findIn K (.ref C) (PySem.dunder op.info.2) = some (some (.ref f))) (hf : isFn K (.ref f) = true)
    (h : wpAny (model prog w) A (call (.ref f) [.ref x, .ref b]) (CmpBack Q) E s) : wpAny (model prog w) A (binaryOp op (.ref x) (.ref b)) Q E s := by
  obtain ⟨cd, rest, hcd, hm⟩ := ksp_first hc
  rcases hi : op.info with ⟨sym, nm'⟩
  rw [hi] at hs
  dsimp only at hs
  have one := ksp_try X₀ I hs hf h
  obtain ⟨hh, g, d, tt, os⟩ := s
  have L1 : Looks (model prog w) hh (typeOf (.ref x)) (.ref C) := I.type
  have L2 : Looks (model prog w) hh (typeOf (.ref b)) (.ref C) := J.type
  have L3 : Looks (model prog w) hh (fillsNumberSlot (.ref C) nm') true := fills_K X₀ hcd hm hs
  have heq : (Value.ref C == Value.ref C) = true := by simp
  simp only [binaryOp, hi]
  refine wpAny_holding (wpAny_bind ?_)
  unfold binaryOp1
  refine wpAny_bind (L1.at (wpAny_bind (L2.at (wpAny_bind (L3.at ?_)))))
  simp only [heq, if_true]
  ksp_lk
  refine wpAny_mono one (fun r s' hr' => ?_) fun _ _ e => e
  obtain ⟨v, rfl, hq⟩ := hr'
  ksp_lk
  exact hq
end
end PySem.W
namespace Dp
open PySem PySem.Spec PyProof.Rows L2
section
variable {X : Cx} {Wx : WX} {G : Prog} {n : Nat}
theorem rel_back {v : V} {u : Value} {Q : Value → Shared → Prop} {s : Shared} (r : RelV v u) (q : Q u s) : PySem.W.CmpBack Q u s := by
  cases u <;> first | exact q | (cases v <;> (try (obtain ⟨_, z⟩ := r; cases z)) <;> (try cases r))
theorem nox_false {pins : List (Addr × Obj)} {σ : L2.St} {H : Hp} {s s' : Shared} {e : Value} : L2.CX X.prog X.w X.stack H s (fun _ _ _ => False) e s' → False := fun ⟨_, _, _, _, _, _, _, _, _, _, _, _, h⟩ => h
/-- o.f, f a property -/
theorem de_prop (x : Xok G n X Wx) {o : Expr} {f : Str} {cs : List (Str × Nat)} {pos : Pos} {fo : Sl → Mu → R SV} (hcs : ∀ c k, cs.lookup c = some k → ((c, f), k) ∈ G.props) (ho : PE X o (tS X Wx fo)) (h1 : noSup o = true) :
    PE X (.Attribute o f pos) (tS X Wx fun s m => (fo s m).bind fun x m1 => (match seeD m1 x.fz with
    | .ins c _ _ => (match cs.lookup c with
      | some k => (callN G n k [x.fz] m1).bindN fun r m2 => (match r with
        | .val d => .ok (.val d) m2
        | _ => .bad)
      | none => .bad)
    | _ => .bad)) := by
  refine ⟨fun pins s σ H Q I ⟨W, sl, m, hs, out⟩ => ?_⟩
  have rd : tS X Wx fo σ H (fun v H1 => ∃ (a : Addr) (dx : Addr) (fs : List (Str × V)) (c : Str) (k : Nat) (g : Fn) (W1 : Wd) (m1 : Mu) (d : Dp.D), v = .ref a ∧ H1 a = some (.ins (He.ga X.K c) dx fs) ∧ ((c, f), k) ∈ G.props ∧ G.fns[k]? = some g ∧ St0 X.K X.mg W1 m1 H1 ∧ Rep X.K X.mg W1 d (.ref a) ∧
      OutG X.K X.mg (SvAt X.K X.mg) (WE0 fun _ _ _ => False) W1 H1 [] (callN G n k [d] m1) Q) := by
    refine runz rb_sv hs out fun xv m1 W1 v H1 hh1 p1 av o1 => ?_
    split at o1
    · rename_i c ns ds e1
      split at o1
      · rename_i k e2
        have hv := see_rep (m := m1) hh1.toSt0 av
        rw [e1] at hv
        obtain ⟨a, dx, vs, rfl, hh, hl, rr⟩ := hv.ins hh1.sub
        obtain ⟨g, hg, _⟩ := x.fx.props _ (hcs c k e2)
        refine ⟨a, dx, _, c, k, g, W1, m1, xv.fz, rfl, hh, hcs c k e2, hg, hh1.toSt0, av, outN0 (A2 := SvAt X.K X.mg) o1 fun r m2 W2 b H2 er o2 x2 p2 bv => ?_⟩
        cases r with
        | val d => exact (show OutG X.K X.mg (SvAt X.K X.mg) Wx W1 H1 σ (.ok (.val d) m2) Q from o2).fin2 x2 p2 bv
        | own c => exact o2.elim
      · exact o1.elim
    · exact o1.elim
  refine attr_of (base_eq h1) (thn (ho.run pins s σ H _ I rd) fun u s1 ⟨v, H1, I1, rv, a, dx, fs, c, k, g, W1, m1, d, ev, hh, hp, hg, st, ra, o1⟩ => ?_)
  subst ev
  obtain rfl : u = Value.ref a := rv
  obtain ⟨g', hg', cl, q, po⟩ := x.fx.props _ hp
  have hg' : G.fns[k]? = some g' := hg'
  rw [hg] at hg'
  cases hg'
  have hl := callN_ok hg (out_nb o1)
  obtain ⟨fd, F, B⟩ := (x.fns k g hg).ok
  obtain ⟨j1, j2⟩ := fill_len (j := 0) hl
  obtain ⟨dvs, dz, vd, bd, rdd⟩ := B 1 j1 j2
  exact getprop_ok I1 hh cl po F x.room bd vd (E := fun _ _ _ => False) (fun pins σ H s e s' I c => (nox_false (X := X) (pins := pins) (σ := σ) c).elim)
    ⟨g, W1, fill g [d], m1, hg, hl, st, (Reps.one ra).append (rdd W1), by rw [callN_fill hg hl]; exact o1⟩
/-- the k-th def run, as code -/
theorem run_fnkC (x : Xok G n X Wx) {pins : List (Addr × Obj)} {σ : L2.St} {W : Wd} {m : Mu} {H : Hp} {s : Shared} {Q : VK} {k : Nat} {f : Fn} {ds : List D} {vs : List V} {us : List Value} (hf : G.fns[k]? = some f) (I : L2.Inv X pins σ H s) (r : Vals vs us) (st : St0 X.K X.mg W m H) (rd : Reps X.K X.mg W ds vs)
    (o : OutG X.K X.mg (SvAt X.K X.mg) Wx W H σ (callN G n k ds m) Q) : codeAny (model X.prog X.w) X.A (.call (.ref (fAw X.K f.at_)) ⟨us, []⟩) (fun r s' => match r with
      | .ok (.ret v) => EP X pins σ Q v s'
      | .ok _ => False
      | .error e => X.xe e s') s := by
  have hl := callN_ok hf (out_nb o)
  obtain ⟨fd, F, B⟩ := (x.fns k f hf).ok
  obtain ⟨h1, h2⟩ := fill_len (j := 0) hl
  obtain ⟨dvs, dz, vd, bd, rdd⟩ := B ds.length h1 h2
  have h := sp_of hf hl st rd (rdd W) o
  have r2 : Vals (vs ++ dvs) (us ++ dz) := r.append vd
  have hl2 : (us ++ dz).length = f.ps.length := by rw [← r2.length]; exact F.len _ _ _ _ h
  refine codeAny_mono (F.run X.A X.stack s H ⟨us, []⟩ (us ++ dz) (vs ++ dvs) Q (WE Wx σ) (x.room.mono (by omega)) I.env0 (bd s us I.kIn hl2) r2 h) fun r s' hq => ?_
  cases r with
  | error e => exact passAt x.tk σ pins H s e s' I hq
  | ok fl =>
    cases fl with
    | ret u => exact I.after hq
    | next => exact False.elim hq
    | brk => exact False.elim hq
    | cont => exact False.elim hq
/-- C.m(e, ..), m a classmethod -/
theorem de_cmeth (x : Xok G n X Wx) {c mn : Str} {k : Nat} {e : Expr} {es : List Expr} {np apos pos : Pos} {pl : Sem Bool} {fa : Sl → Mu → R (List D)} (hk : ((c, mn), k) ∈ G.cms) (hdb : (c == ("__debug__" : Str)) = false) (hg : Gl X c) (n1 : noStar e = true) (n2 : es.all noStar = true) (ha : PA X (e :: es) (tL X Wx fa))
    (ht : eval (.Call (.Attribute (.Name c np) mn apos) (e :: es) [] pos) X.env = (do
      let ov ← eval (.Name c np) X.env
      standAt apos.atName
      let (f, first) ← holding [ov] (getMethod ov mn pl)
      callWith pos f first (backTo pos (starEach (e :: es) X.env)) (backToKw pos (keywordEach [] X.env)))) :
    PE X (.Call (.Attribute (.Name c np) mn apos) (e :: es) [] pos) (tS X Wx fun s m => (fa s m).bind fun ds m1 => callN G n k (.cl c :: ds) m1) := by
  refine ⟨fun pins s σ H Q I h => ?_⟩
  obtain ⟨f, hf, hm, cr, q, cm⟩ := x.fx.cms _ hk
  have fin : tL X Wx fa σ H fun vs H1 => ∃ (W1 : Wd) (m1 : Mu) (ds : List D), St0 X.K X.mg W1 m1 H1 ∧ Reps X.K X.mg W1 ds vs ∧ OutG X.K X.mg (SvAt X.K X.mg) Wx W1 H1 σ (callN G n k (.cl c :: ds) m1) Q := by
    obtain ⟨W, sl, m, hs, o⟩ := h
    exact run rb_sv hs o fun ds m1 W1 vs H1 _ h1 p1 r o1 => ⟨W1, m1, ds, h1.toSt0, r, o1⟩
  refine PySem.W.methodCall_KW (pl := pl) (ld_glob I hg hm ?_ hdb) ht
  refine ClX.getmethcm_ok I cr cm fun s2 I2 => ?_
  refine ClX.callwith_cm I2 (ClX.base_none I (Nat.le_refl _)) cm.fi (thn (ha.run pos _ s2 σ H _ I2 fin) fun us s3 ⟨vs, H2, I3, rv, W1, m1, ds, st, rd, o1⟩ => ⟨⟨ClX.pin_at I3, I3.kIn⟩, ?_⟩) (star_cons n1) (star_any n2)
  exact thn (wpAny_call (PySem.W.method_call (ClX.pin_at I3) (run_fnkC x (vs := V.ref (He.ga X.K c) :: vs) (us := Value.ref (He.ga X.K c) :: us) hf I3 (.cons rfl rv) st (Reps.cons (d := D.cl c) rfl rd) o1))) fun _ _ y => ClX.unpinE y
/-- x(e, ..), x a name that holds a class -/
theorem de_newv (x : Xok G n X Wx) {i : Nat} {y c : Str} {k : Nat} {e : Expr} {es : List Expr} {p pos : Pos} {fa : Sl → Mu → R (List D)} (hc : (c, k) ∈ G.news) (hv : PE X (.Name y p) (tVar i)) (n1 : noStar e = true) (n2 : es.all noStar = true) (ha : PA X (e :: es) (tL X Wx fa)) :
    PE X (.Call (.Name y p) (e :: es) [] pos) (tS X Wx fun s m => match s[i]? with
    | some (some (.val (.cl c'))) => if c' = c then (fa s m).bind fun ds m1 => (callN G n k (.ref m1.length :: ds) (m1 ++ [.ins c [] []])).bind fun r m2 => newR m1 r m2 else .bad
    | _ => .bad) := by
  refine ⟨fun pins s σ H Q I ⟨W, sl, m, hs, o⟩ => ?_⟩
  obtain ⟨f, hf, M, hm⟩ := x.fx.news _ hc
  dsimp only at o
  split at o
  · rename_i c' ec
    split at o
    · rename_i ecc
      subst ecc
      obtain ⟨v, ev, rv⟩ := hs.slot i _ ec
      have fin : tL X Wx fa σ H fun vs H1 => ∃ (W1 : Wd) (m1 : Mu) (ds : List D), St0 X.K X.mg W1 m1 H1 ∧ Reps X.K X.mg W1 ds vs ∧ OutG X.K X.mg (SvAt X.K X.mg) Wx W1 H1 σ ((callN G n k (.ref m1.length :: ds) (m1 ++ [.ins c' [] []])).bind fun r m2 => newR m1 r m2) Q :=
        run rb_sv hs o fun ds m1 W1 vs H1 _ h1 p1 r o1 => ⟨W1, m1, ds, h1.toSt0, r, o1⟩
      refine wpAny_Call_Name_kw (thn (hv.run pins s σ H (fun v H1 => v = .ref (He.ga X.K c') ∧ H1 = H) I ⟨v, ev, rv, rfl⟩) fun u s1 ⟨v2, H1, I1, r1, ev2, eH⟩ => ?_)
      subst ev2 eH
      obtain rfl : u = Value.ref (He.ga X.K c') := r1
      refine PySem.W.callWith_K (h₀ := X.base) I.ok.mod.kin M.kp (thn (ha.run pos pins s1 σ H1 _ I1 fin) fun us s2 ⟨vs, H2, I2, r, W1, m1, ds, st, rd, o1⟩ => ⟨I2.kIn, ?_⟩) (star_cons n1) (star_any n2)
      exact new_run x hc I2 r st rd o1
    · exact o.elim
  · exact o.elim
/-- a op b, a an instance -/
theorem de_bop (x : Xok G n X Wx) {op : BO} {ks : List (Str × Nat)} {a b : Expr} {pos : Pos} {fa fb : Sl → Mu → R SV} (hk : ∀ c k, ks.lookup c = some k → ((c, op), k) ∈ G.ops) (ha : PE X a (tS X Wx fa)) (hb : PE X b (tS X Wx fb)) :
    PE X (.BinOp a (boOp op) b pos) (tS X Wx fun s m => (fa s m).bind fun x m1 => (fb s m1).bind fun y m2 => (match seeD m2 x.fz with
    | .ins c _ _ => (match ks.lookup c with
      | some k => if opdOk c (seeD m2 y.fz) = true then callN G n k [x.fz, y.fz] m2 else .bad
      | none => .bad)
    | _ => .bad)) := by
  refine ⟨fun pins s σ H Q I ⟨W, sl, m, hs, out⟩ => ?_⟩
  refine wpAny_BinOp (binT ha hb I (R := fun v u H2 => ∃ (p dx : Addr) (fs : List (Str × V)) (c : Str) (k : Nat) (W2 : Wd) (m2 : Mu) (d d2 : Dp.D), v = .ref p ∧ H2 p = some (.ins (He.ga X.K c) dx fs) ∧ ((c, op), k) ∈ G.ops ∧ ((∃ i, u = .int i) ∨ ∃ q dx2 fs2, u = .ref q ∧ H2 q = some (.ins (He.ga X.K c) dx2 fs2)) ∧
    St0 X.K X.mg W2 m2 H2 ∧ Rep X.K X.mg W2 d v ∧ Rep X.K X.mg W2 d2 u ∧ OutG X.K X.mg (SvAt X.K X.mg) Wx W2 H2 σ (callN G n k [d, d2] m2) Q) ?_ fun v u s2 xv yv H2 I2 rx ry q => ?_)
  · refine runz rb_sv hs out fun xv m1 W1 v H1 h1 p1 av o1 => runz rb_sv h1 o1 fun yv m2 W2 u H2 h2 p2 bv o2 => ?_
    have av2 := Rep.mono p2.le _ _ av
    split at o2
    · rename_i c ns ds e1
      split at o2
      · rename_i k e2
        split at o2
        · rename_i hok
          have hv := see_rep (m := m2) h2.toSt0 av2
          rw [e1] at hv
          obtain ⟨p, dx, vs, rfl, hh, hl, rr⟩ := hv.ins h2.sub
          refine ⟨p, dx, _, c, k, W2, m2, xv.fz, yv.fz, rfl, hh, hk c k e2, ?_, h2.toSt0, av2, bv, o2⟩
          have hu := see_rep (m := m2) h2.toSt0 bv
          generalize seeD m2 yv.fz = sd at hok hu
          cases sd <;> try cases hok
          · exact .inl ⟨_, hu.int⟩
          · rename_i c2 ns2 ds2
            have ec : c2 = c := of_decide_eq_true hok
            subst ec
            obtain ⟨q, dx2, vs2, e3, hh2, _⟩ := hu.ins h2.sub
            exact .inr ⟨q, dx2, _, e3, hh2⟩
        · exact o2.elim
      · exact o2.elim
    · exact o2.elim
  · obtain ⟨p, dx, fs, c, k, W2, m2, d, d2, e1, hh, hp, hy, st, rd, rd2, o2⟩ := q
    subst e1
    obtain rfl : v = Value.ref p := rx
    obtain ⟨f, hf, ow⟩ := x.fx.ops _ hp
    obtain ⟨mA, O, _⟩ := ins_get I2.hok hh
    obtain ⟨od, J, _⟩ := O.look
    have back : wpAny (model X.prog X.w) X.A (call (.ref (fAw X.K f.at_)) [.ref p, u]) (PySem.W.CmpBack (EP X pins σ Q)) X.xe s2 :=
      thn (run_fnk x (vs := [V.ref p, yv]) (us := [Value.ref p, u]) hf I2 (.cons rfl (.cons ry .nil)) st (Reps.cons rd (Reps.one rd2)) o2) fun r s3 hr => by
        obtain ⟨z, H3, I3, rz, q3⟩ := hr
        exact rel_back (Q := EP X pins σ Q) rz ⟨z, H3, I3, rz, q3⟩
    rcases hy with ⟨i, rfl⟩ | ⟨q, dx2, fs2, rfl, hh2⟩
    · obtain ⟨t, rfl⟩ := ry
      obtain ⟨mf, Fr0⟩ := I2.fr
      obtain ⟨rc, r1, r2⟩ := ow.rr
      obtain ⟨fo, i1⟩ := ow.i1
      obtain ⟨ro, i2⟩ := ow.i2
      exact PySem.W.ksp_binT Fr0 I2.ok.mod.kin J rfl ow.sf ow.at_ ow.fn r1 r2 i1 i2 ow.isb back
    · obtain rfl : u = Value.ref q := ry
      obtain ⟨mB, O2, _⟩ := ins_get I2.hok hh2
      obtain ⟨oe, J2, _⟩ := O2.look
      exact PySem.W.dp_binC I2.kIn J J2 ow.sf ow.at_ ow.fn back
end
end Dp
end

section
set_option Elab.async false
set_option linter.all false
set_option maxRecDepth 100000
set_option maxHeartbeats 4000000
/-! dict comprehensions; xs[i] op= e. -/
namespace Dp
open PySem PySem.Spec PyProof.Rows L2
theorem dcPut_ok {K : PySem.W.Frag} {mg : Str → Option Value} {W : Wd} {H : Hp} {a : Addr} {c c' : Cell} {y x : D} {vy vx : V} (sub : Same W.Hf H) (hc : CellAt K mg W H a c) (ry : Rep K mg W y vy) (rx : Rep K mg W x vx) (e : dcPut c y x = some c') : ∃ o, DPut H a vy vx (upd H a o) ∧ CellAt K mg W (upd H a o) a c' := by
  cases c with
  | lst ds => cases y <;> cases e
  | dk ks ds =>
    obtain ⟨us, hu, hl, ru⟩ := hc
    cases y <;> try cases e
    · rename_i i
      cases ry
      have e : (if ks.length < sizeLine then some (Cell.dk (putKN (.inl i) ks) (putKD (.inl i) x ks ds)) else none) = some c' := e
      split at e
      · rename_i hz
        cases e
        have hl2 : (ks.zip us).length < sizeLine := by rw [List.length_zip, ← ru.length, hl, Nat.min_self, ← hl]; exact hz
        exact ⟨_, DPut.k (k := .inl i) hu hl2, putKD (.inl i) vx ks us, by rw [upd_same, zip_put _ _ _ _ (hl.trans ru.length)], putKN_len _ _ hl, reps_put _ rx hl ru⟩
      · cases e
    · rename_i i
      cases ry
      have e : (if ks.length < sizeLine then some (Cell.dk (putKN (.inr i) ks) (putKD (.inr i) x ks ds)) else none) = some c' := e
      split at e
      · rename_i hz
        cases e
        have hl2 : (ks.zip us).length < sizeLine := by rw [List.length_zip, ← ru.length, hl, Nat.min_self, ← hl]; exact hz
        exact ⟨_, DPut.k (k := .inr i) hu hl2, putKD (.inr i) vx ks us, by rw [upd_same, zip_put _ _ _ _ (hl.trans ru.length)], putKN_len _ _ hl, reps_put _ rx hl ru⟩
      · cases e
  | dt ks ds =>
    obtain ⟨us, hu, hl, ru⟩ := hc
    cases y <;> try cases e
    rename_i ys
    have e : (match keysD ys with | some k => if ks.length < sizeLine then some (Cell.dt (putKN k ks) (putKD k x ks ds)) else none | none => none) = some c' := e
    cases ek : keysD ys with
    | none => rw [ek] at e; cases e
    | some k =>
      rw [ek] at e
      dsimp only at e
      obtain ⟨b, ws, rfl, hb, rr⟩ := ry
      have eb := keysD_v rr ek
      subst eb
      split at e
      · rename_i hz
        cases e
        have hl2 : (ks.zip us).length < sizeLine := by rw [List.length_zip, ← ru.length, hl, Nat.min_self, ← hl]; exact hz
        exact ⟨_, DPut.t (k := k) hu (sub _ _ hb) hl2, putKD k vx ks us, by rw [upd_same, zip_put _ _ _ _ (hl.trans ru.length)], putKN_len _ _ hl, reps_put _ rx hl ru⟩
      · cases e
  | ins c ns ds => cases y <;> cases e
def dcO (tk : Bool) : HO := if tk = true then .dT [] else .dK []
section
variable {X : Cx} {Wx : WX}
def dcF (t : T) (vs : List Nat) (fc : Sl → Mu → R Bool) (fk fv : Sl → Mu → R SV) (s : Sl) (d : D) (m2 : Mu) : R (Option (D × D)) := match bindT (wipeS s vs) t d with
  | some s2 => (fc s2 m2).bind fun b m3 => if b = true then (fk s2 m3).bind fun x m4 => (fv s2 m4).bind fun y m5 => .ok (some (x.fz, y.fz)) m5 else .ok none m3
  | none => .bad
def dcP (X : Cx) (Wx : WX) (W1 : Wd) (H1 : Hp) (σ : L2.St) (Q : VK) (ds : List D) (F : D → Mu → R (Option (D × D))) (p : Addr) (i : Nat) (H : Hp) : Prop :=
  ∃ (W2 : Wd) (m2 : Mu) (acc : Cell), i ≤ ds.length ∧ St0 X.K X.mg W2 m2 H ∧ Step W1 H1 W2 H ∧ CellAt X.K X.mg W2 H p acc ∧ W2.Hf p = none ∧ p ∉ W2.th ∧
    OutG X.K X.mg (SvAt X.K X.mg) Wx W1 H1 σ ((dcL F (ds.drop i) acc m2).bind fun r m5 => .ok (.own r) m5) Q
theorem dc_empty {K : PySem.W.Frag} {mg : Str → Option Value} {W : Wd} {H : Hp} {p : Addr} (tk : Bool) : CellAt K mg W (upd H p (dcO tk)) p (dcE tk) := by
  cases tk
  · exact ⟨[], by rw [upd_same]; rfl, rfl, rfl⟩
  · exact ⟨[], by rw [upd_same]; rfl, rfl, rfl⟩
theorem dc_turns {W1 : Wd} {s : Sl} {m1 : Mu} {σ : L2.St} {H1 : Hp} {Q : VK} {ds : List D} {J : It} {t : T} {vs : List Nat} {fc : Sl → Mu → R Bool} {fk fv : Sl → Mu → R SV} {tk : Bool} (h1 : Holds X.K X.mg W1 s m1 σ H1) (it : ItOk X.K X.mg W1 ds J) (hv : ∀ i ∈ t.slots, i ∈ vs)
    (o : OutG X.K X.mg (SvAt X.K X.mg) Wx W1 H1 σ ((dcL (dcF t vs fc fk fv s) ds (dcE tk) m1).bind fun r m5 => .ok (.own r) m5) Q) (D : Addr) (hD : H1 D = none) :
    ∃ Wm : Nat → Nat → Hp → Prop, (∃ m, Wm 0 m (upd H1 D (dcO tk))) ∧ ∀ i m H, Wm i m H →
      (J.stop i H ∧ Q (.ref D) H) ∨ (J.go i H ∧ ∃ Nx : Hp → Prop, (∀ H', Nx H' → ∃ m', m' < m ∧ Wm (i + 1) m' H') ∧ ∀ x H', J.yld i H x H' → tGT X.K t x (wipe σ vs) H' fun σ2 H2 => wipe σ2 vs = wipe σ vs ∧ tT X Wx0 fc σ2 H2 fun b H3 =>
        if b = true then tS X Wx0 fk σ2 H3 fun y H4 => tS X Wx0 fv σ2 H4 fun z H5 => ∃ H6, DPut H5 D y z H6 ∧ Nx H6 else Nx H3) := by
  obtain ⟨x0, p0, n1, n2⟩ := h1.toSt0.made hD (dcO tk)
  refine ⟨fun i n H => n = ds.length - i ∧ dcP X Wx W1 H1 σ Q ds (dcF t vs fc fk fv s) D i H, ⟨_, rfl, W1, m1, dcE tk, Nat.zero_le _, x0, p0, dc_empty tk, n1, n2, o⟩, ?_⟩
  rintro i n H ⟨rfl, W2, m2, acc, hi, x2, p2, ca, z1, z2, o2⟩
  obtain ⟨uo, hu⟩ := ca.ex
  have nt0 := ca.ntup hu
  by_cases hlt : i < ds.length
  · refine .inr ⟨it.go W2 m2 H i p2.le x2 hlt, dcP X Wx W1 H1 σ Q ds (dcF t vs fc fk fv s) D (i + 1), fun H' q => ⟨ds.length - (i + 1), by omega, rfl, q⟩, fun x H' y => ?_⟩
    obtain ⟨W3, d, hd, x3, p3, rd⟩ := it.yld W2 m2 H i x H' p2.le x2 hlt y
    have ed : ds.drop i = d :: ds.drop (i + 1) := by
      rw [List.drop_eq_getElem_cons hlt]
      have e := hd
      rw [List.getElem?_eq_getElem hlt] at e
      cases e
      rfl
    rw [ed] at o2
    have p13 := p2.trans x2 p3
    have hw := (h1.step p13 x3).wipe vs
    have ob : OutG X.K X.mg (SvAt X.K X.mg) Wx W1 H1 σ (((dcF t vs fc fk fv s d m2).bindN fun o m1 => (match o with
      | some x => (match dcPut acc x.1 x.2 with
        | some acc' => dcL (dcF t vs fc fk fv s) (ds.drop (i + 1)) acc' m1
        | none => .bad)
      | none => dcL (dcF t vs fc fk fv s) (ds.drop (i + 1)) acc m1)).bind fun r m5 => .ok (.own r) m5) Q := o2
    cases eF : dcF t vs fc fk fv s d m2 with
    | bad => rw [eF] at ob; exact ob.elim
    | ex _ _ => rw [eF] at ob; exact ob.elim
    | ok od m6 =>
      rw [eF] at ob
      have ob : OutG X.K X.mg (SvAt X.K X.mg) Wx W1 H1 σ ((match od with
        | some x => (match dcPut acc x.1 x.2 with
          | some acc' => dcL (dcF t vs fc fk fv s) (ds.drop (i + 1)) acc' m6
          | none => .bad)
        | none => dcL (dcF t vs fc fk fv s) (ds.drop (i + 1)) acc m6).bind fun r m5 => .ok (.own r) m5) Q := ob
      unfold dcF at eF
      cases eb : bindT (wipeS s vs) t d with
      | none => rw [eb] at eF; cases eF
      | some s2 =>
        rw [eb] at eF
        refine bind_ok hw rd eb fun σ2 h3 hwp => ⟨?_, ?_⟩
        · rw [hwp vs hv, wipe_wipe fun i hi => hi]
        · refine ⟨W3, s2, m2, h3, ?_⟩
          have eF : (fc s2 m2).bind (fun b m3 => if b = true then (fk s2 m3).bind fun x m4 => (fv s2 m4).bind fun y m5 => .ok (some (x.fz, y.fz)) m5 else .ok none m3) = R.ok od m6 := eF
          cases ec : fc s2 m2 with
          | bad => rw [ec] at eF; cases eF
          | ex _ _ => rw [ec] at eF; cases eF
          | ok b m3 =>
            rw [ec] at eF
            intro W4 b' H3 x4 p4 eb'
            obtain rfl : b = b' := eb'
            have h4 := h3.step p4 x4
            have eF : (if b = true then (fk s2 m3).bind fun x m4 => (fv s2 m4).bind fun y m5 => .ok (some (x.fz, y.fz)) m5 else .ok none m3) = R.ok od m6 := eF
            have p14 := p13.trans x3 p4
            have hD3 := p3.keep D _ hu z2
            have w1 := p3.nofz D _ hu z1 z2 nt0
            have w2 := p3.nth hu z2
            have hD4 := p4.keep D _ hD3 w2
            have w3 := p4.nofz D _ hD3 w1 w2 nt0
            have w4 := p4.nth hD3 w2
            cases b with
            | false =>
              rw [if_neg Bool.false_ne_true] at eF ⊢
              cases eF
              exact ⟨W4, _, acc, hlt, x4, p14, ca.mono (p3.le.trans p4.le) fun o' e' => by rw [hu] at e'; cases e'; exact hD4, w3, w4, ob⟩
            | true =>
              rw [if_pos rfl] at eF ⊢
              refine ⟨W4, s2, m3, h4, ?_⟩
              cases ee : fk s2 m3 with
              | bad => rw [ee] at eF; cases eF
              | ex _ _ => rw [ee] at eF; cases eF
              | ok kv m4 =>
                rw [ee] at eF
                intro W5 yv H4 x5 p5 sv
                obtain ⟨W6, h6, p6, r6, l6⟩ := freeze_new h4 p5 (h4.step p5 x5) sv
                have hD5 := p6.keep D _ hD4 w4
                have w5 := p6.nofz D _ hD4 w3 w4 nt0
                have w6 := p6.nth hD4 w4
                refine ⟨W6, s2, m4, h6, ?_⟩
                have eF : (fv s2 m4).bind (fun y m5 => .ok (some (kv.fz, y.fz)) m5) = R.ok od m6 := eF
                cases e2 : fv s2 m4 with
                | bad => rw [e2] at eF; cases eF
                | ex _ _ => rw [e2] at eF; cases eF
                | ok vv m5 =>
                  rw [e2] at eF
                  cases eF
                  intro W7 zv H5 x7 p7 sv2
                  obtain ⟨W8, h8, p8, r8, l8⟩ := freeze_new h6 p7 (h6.step p7 x7) sv2
                  have hD8 := p8.keep D _ hD5 w6
                  have w7 := p8.nofz D _ hD5 w5 w6 nt0
                  have w8 := p8.nth hD5 w6
                  dsimp only at ob
                  cases ep : dcPut acc kv.fz vv.fz with
                  | none => rw [ep] at ob; exact ob.elim
                  | some acc' =>
                    rw [ep] at ob
                    have ca8 : CellAt X.K X.mg W8 H5 D acc := ca.mono (((p3.le.trans p4.le).trans p6.le).trans p8.le) fun o' e' => by rw [hu] at e'; cases e'; exact hD8
                    obtain ⟨o', dp, ca9⟩ := dcPut_ok h8.toSt0.sub ca8 (Rep.mono p8.le _ _ r6) r8 ep
                    exact ⟨_, dp, W8, _, acc', hlt, h8.toSt0.write w7 w8 _, ((p14.trans x4 p6).trans h6.toSt0 p8).updFresh hD _, ca9, w7, w8, ob⟩
  · have e : i = ds.length := by omega
    subst e
    refine .inl ⟨it.stop W2 m2 H _ p2.le x2 (Nat.le_refl _), ?_⟩
    rw [List.drop_length] at o2
    exact o2.fin2 x2 p2 ⟨D, rfl, ⟨ca, z1, z2⟩, hD⟩
theorem de_dc (hc : X.calm = true) (hN : X.N.Nodup) (hu : X.A.units + 200 < cLine) {kx vx tg iter : Expr} {ifs : List Expr} {scope : Scope} {own : List (Str × Nat)} {pos : Pos} {t : T} {tk : Bool} {fi : Sl → Mu → R (List D)} {fc : Sl → Mu → R Bool} {fk fv : Sl → Mu → R SV} (hi : PI X tg iter (tI X Wx fi)) (ok : BlkOk X.N X.env.scope scope own) (hv : ∀ i ∈ t.slots, i ∈ own.map (·.2))
    (hg : ∀ (s : Shared) (H : Hp) (C : Addr) (cl : List (Str × Addr)) (fp : List Addr), PG (X.blk s H scope (compEnvC scope cl C X.env) fp) tg (tGT X.K t)) (ht : ∀ (s : Shared) (H : Hp) (C : Addr) (cl : List (Str × Addr)) (fp : List Addr), PTs (X.blk s H scope (compEnvC scope cl C X.env) fp) ifs (tT X Wx0 fc))
    (hk : ∀ (s : Shared) (H : Hp) (C : Addr) (cl : List (Str × Addr)) (fp : List Addr), PE (X.blk s H scope (compEnvC scope cl C X.env) fp) kx (tS X Wx0 fk))
    (he : ∀ (s : Shared) (H : Hp) (C : Addr) (cl : List (Str × Addr)) (fp : List Addr), PE (X.blk s H scope (compEnvC scope cl C X.env) fp) vx (tS X Wx0 fv)) (hs : ∀ x, foldedSetIterable iter X.env x = pure x) :
    PE X (.DictComp kx vx [⟨tg, iter, ifs, 0⟩] scope pos) (tS X Wx fun s m => (fi s m).bind fun ds m1 => (dcL (dcF t (own.map (·.2)) fc fk fv s) ds (dcE tk) m1).bind fun r m5 => .ok (.own r) m5) := by
  refine pe_imp (pe_dcg (o0 := dcO tk) hc hN hi ok hg ht hk he hs (by omega) (fun H' hp hb => by
    cases tk
    · exact dk_empty hp hb
    · exact dt_empty hp hb)) fun σ H Q ⟨W, s, m, hs, o⟩ => ?_
  refine run rb_sv hs o fun ds m1 W1 J H1 _ h1 p1 it o1 D hD => ?_
  exact dc_turns h1 it hv o1 D hD
end
/-! ### xs[a] op= e -/
section
variable {X : Cx} {Wx : WX} {W0 : Wd} {H0 : Hp}
def rGetL : V → V → Hp → VK → Prop := fun o i H Q => ∃ (a : Addr) (xs : List V) (j : Int) (v : V), o = .ref a ∧ i = .int j ∧ H a = some (.lst xs) ∧ atI xs j = some v ∧ Q v H
theorem get_listI : PGet X rGetL := by
  intro pins s σ H o i ov iv Q I ro ri h
  obtain ⟨a, xs, k, v, rfl, rfl, ha, hv, q⟩ := h
  cases ro
  obtain ⟨t, rfl⟩ := ri
  obtain ⟨its, r, pl, hz⟩ := I.list (SqL.of ha)
  obtain ⟨j, h1, h2, h3, h4, h5⟩ := atI_get hv
  obtain ⟨w, ew, rw'⟩ := r.get h2
  have hl := r.length
  have hn := line63
  have fin : EP X pins σ Q w s := ⟨v, H, I, rw', q⟩
  by_cases h0 : 0 ≤ k
  · have hj : k.toNat = j := by
      rw [seqIndex_of h0 h5] at h1
      exact Option.some.inj h1
    exact wpAny_getItem_list pl.isList h0 (by omega) (by rw [hj]; simpa using ew) fin
  · have hj : (k + (its.toArray.size : Int)).toNat = j := by
      rw [seqIndex_neg (by omega) h4] at h1
      rw [List.size_toArray, ← hl]
      exact Option.some.inj h1
    exact wpAny_getItem_list_neg pl.isList (by omega) (by rw [List.size_toArray] <;> omega) (by omega) (by rw [hj]; simpa using ew) fin
theorem d_augs (hu : X.A.units + 200 < cLine) {x : Str} {i : Nat} {op : BO} {b e : Expr} {p tp pos : Pos} {fb fe : Sl → Mu → R SV} (hv : PE X (.Name x p) (tVar i)) (hb : PE X b (tS X Wx fb)) (hn : noSlc b = true) (he : PE X e (tS X Wx fe)) (hop : op = .add ∨ op = .sub) :
    PS X (.AugAssign (.Subscript (.Name x p) b tp) (boOp op) e pos) (tD X Wx W0 H0 fun s m => if isL s i = true then (fb s m).st s fun y m1 => (match s[i]?, y.fz with
    | some (some (.own (.lst ds))), .int j => (match atI ds j with
      | some (.int x) => (fe s m1).st s fun z m2 => (match (generalizing := false) op, z.fz with
        | .add, .int w => chgO i s m2 (fun c => (opSet c (.int j) (.int (x + w))).map fun c' => (c', ())) fun _ s1 m3 => .nx s1 m3
        | .sub, .int w => chgO i s m2 (fun c => (opSet c (.int j) (.int (x - w))).map fun c' => (c', ())) fun _ s1 m3 => .nx s1 m3
        | _, _ => .bad)
      | _ => .bad)
    | _, _ => .bad) else .bad) := by
  have key : ∀ (g : Int → Int → Int) (tip : TIp), PIp X (boOp op) (ipI g) → (∀ (s : Sl) (m : Mu) (z : SV) (j x : Int) (D : Ends) (Wl : Wd), OutS X.K X.mg Wx W0 H0 Wl (match (generalizing := false) op, z.fz with
        | .add, .int w => chgO i s m (fun c => (opSet c (.int j) (.int (x + w))).map fun c' => (c', ())) fun _ s1 m3 => .nx s1 m3
        | .sub, .int w => chgO i s m (fun c => (opSet c (.int j) (.int (x - w))).map fun c' => (c', ())) fun _ s1 m3 => .nx s1 m3
        | _, _ => .bad) D → ∃ w, z.fz = .int w ∧ OutS X.K X.mg Wx W0 H0 Wl (chgO i s m (fun c => (opSet c (.int j) (.int (g x w))).map fun c' => (c', ())) fun _ s1 m3 => .nx s1 m3) D) →
      PS X (.AugAssign (.Subscript (.Name x p) b tp) (boOp op) e pos) (tD X Wx W0 H0 fun s m => if isL s i = true then (fb s m).st s fun y m1 => (match s[i]?, y.fz with
    | some (some (.own (.lst ds))), .int j => (match atI ds j with
      | some (.int x) => (fe s m1).st s fun z m2 => (match (generalizing := false) op, z.fz with
        | .add, .int w => chgO i s m2 (fun c => (opSet c (.int j) (.int (x + w))).map fun c' => (c', ())) fun _ s1 m3 => .nx s1 m3
        | .sub, .int w => chgO i s m2 (fun c => (opSet c (.int j) (.int (x - w))).map fun c' => (c', ())) fun _ s1 m3 => .nx s1 m3
        | _, _ => .bad)
      | _ => .bad)
    | _, _ => .bad) else .bad) := by
    intro g _ hp hz
    refine ps_imp (ps_augS hv hb get_listI he hp (set_any (by omega)) (by intro ov iv nw; cases b <;> first | rfl | cases hn)) fun D σ H ⟨Wl, W, s, m, h, o⟩ => ?_
    dsimp only at o
    split at o
    · rename_i hio
      obtain ⟨a, xs, ea, _⟩ := isL_ok h.h hio
      refine ⟨.ref a, ea, st_runz fb h o fun yv m1 W1 v H1 h1 p1 ry o1 => ?_⟩
      split at o1
      · rename_i ds j es ey
        rw [ey] at ry
        cases ry
        obtain ⟨a', ea', ow⟩ := h1.h.own i _ es
        rw [ea] at ea'
        cases ea'
        obtain ⟨us, hus, rus⟩ := ow.at_
        split at o1
        · rename_i x0 ex
          have eix : ∃ v0, atI us j = some v0 ∧ Rep X.K X.mg W1 (.int x0) v0 := by
            obtain ⟨jj, q1, q2, q3, q4, q5⟩ := atI_get ex
            obtain ⟨v0, w1, w2⟩ := rus.get q2
            refine ⟨v0, ?_, w2⟩
            unfold atI at ex ⊢
            rw [← rus.length]
            cases e3 : ixN ds.length j with
            | none => rw [e3] at ex; cases ex
            | some k3 =>
              rw [e3] at ex
              obtain ⟨h1', h2', _, _⟩ := ixN_seq e3
              rw [q1] at h1'
              cases h1'
              exact w1
          obtain ⟨v0, e0, r0⟩ := eix
          cases r0
          refine ⟨a, us, j, .int x0, rfl, rfl, hus, e0, st_runz fe h1 o1 fun zv m2 W2 u H2 h2 p2 rz o2 => ?_⟩
          obtain ⟨w, ew, o3⟩ := hz s m2 zv j x0 D Wl o2
          rw [ew] at rz
          cases rz
          refine ⟨x0, w, rfl, rfl, ?_⟩
          obtain ⟨c, a', c', r, e1, e2, hc, ef, hw⟩ := chgO_ok h2 o3
          rw [ea] at e2
          cases e2
          refine opSet_ok (y := .int j) (x := .int (g x0 w)) h2.h.toSt0.sub hc rfl rfl (map_unit ef) fun o' hc' => ?_
          obtain ⟨h3, o4⟩ := hw o' hc'
          exact o4 W2 σ _ h3
        · exact o1.elim
      · exact o1.elim
    · exact o.elim
  rcases hop with rfl | rfl
  · refine key (fun a b => a + b) (ipI fun a b => a + b) ip_add fun s m z j x D Wl o => ?_
    generalize z.fz = d at o
    cases d <;> first | exact ⟨_, rfl, o⟩ | exact o.elim
  · refine key (fun a b => a - b) (ipI fun a b => a - b) ip_sub fun s m z j x D Wl o => ?_
    generalize z.fz = d at o
    cases d <;> first | exact ⟨_, rfl, o⟩ | exact o.elim
end
end Dp
end

section
set_option Elab.async false
set_option linter.all false
set_option maxRecDepth 100000
set_option maxHeartbeats 4000000
/-! a list comprehension over a dict by tuples: it is locked meanwhile. name = {.. for ..} on one line. -/
namespace Dp
open PySem PySem.Spec PyProof.Rows L2
def swp (W : Wd) (d : Addr) (o : HO) : Wd := ⟨upd W.Hf d o, W.th⟩
def Dk (kvs : List (List Key × V)) (o : HO) : Prop := o = .dT kvs ∨ ∃ od, o = .frz od (.dT kvs)
section
variable {K : PySem.W.Frag} {mg : Str → Option Value} {W : Wd} {H : Hp} {d a : Addr} {o1 o2 : HO} {kvs : List (List Key × V)} {m : Mu}
theorem swp_ne (h1 : H d = some o1) (k1 : Dk kvs o1) {o : HO} (h : H a = some o) (n : ¬ Dk kvs o) : upd H d o2 a = some o := by
  have : a ≠ d := fun z => by
    subst z
    rw [h1] at h
    cases h
    exact n k1
  rw [upd_ne this]
  exact h
theorem swp_rd (h1 : H d = some o1) (k1 : Dk kvs o1) (k2 : Dk kvs o2) {u : HO} (hu : ∀ o' u', u ≠ .frz o' u') (h : Rd H a u) : Rd (upd H d o2) a u := by
  by_cases e : a = d
  · subst e
    have : u = .dT kvs := by
      rcases h with h | ⟨o, h⟩
      · rw [h1] at h
        cases h
        rcases k1 with k1 | ⟨od, k1⟩
        · exact k1
        · exact absurd k1 (hu _ _)
      · rw [h1] at h
        cases h
        rcases k1 with k1 | ⟨od, k1⟩
        · cases k1
        · cases k1
          rfl
    subst this
    rcases k2 with k2 | ⟨od, k2⟩
    · exact .inl (by rw [upd_same, k2])
    · exact .inr ⟨od, by rw [upd_same, k2]⟩
  · rcases h with h | ⟨o, h⟩
    · exact .inl (by rw [upd_ne e]; exact h)
    · exact .inr ⟨o, by rw [upd_ne e]; exact h⟩
mutual
theorem Rep.swp (h1 : W.Hf d = some o1) (k1 : Dk kvs o1) (k2 : Dk kvs o2) : ∀ (x : D) (v : V), Rep K mg W x v → Rep K mg (swp W d o2) x v
  | .non, _, h => h
  | .bl _, _, h => h
  | .int _, _, h => h
  | .str _, _, h => h
  | .tup ds, _, ⟨a, vs, e, h, r⟩ => ⟨a, vs, e, swp_ne h1 k1 h (fun q => by rcases q with q | ⟨_, q⟩ <;> cases q), Reps.swp h1 k1 k2 ds vs r⟩
  | .lst ds, _, ⟨a, vs, e, h, r⟩ => ⟨a, vs, e, swp_ne h1 k1 h (fun q => by rcases q with q | ⟨_, q⟩ <;> cases q), Reps.swp h1 k1 k2 ds vs r⟩
  | .seq ds, _, ⟨a, vs, e, h, r⟩ => ⟨a, vs, e, h.elim (fun q => .inl (swp_rd h1 k1 k2 (fun _ _ z => nomatch z) q)) .inr, Reps.swp h1 k1 k2 ds vs r⟩
  | .dk _ ds, _, ⟨a, vs, e, h, n, r⟩ => ⟨a, vs, e, swp_ne h1 k1 h (fun q => by rcases q with q | ⟨_, q⟩ <;> cases q), n, Reps.swp h1 k1 k2 ds vs r⟩
  | .dt _ ds, _, ⟨a, vs, e, h, n, r⟩ => ⟨a, vs, e, swp_rd h1 k1 k2 (fun _ _ z => nomatch z) h, n, Reps.swp h1 k1 k2 ds vs r⟩
  | .ins _ _ ds, _, ⟨a, dx, vs, e, h, n, r⟩ => ⟨a, dx, vs, e, swp_ne h1 k1 h (fun q => by rcases q with q | ⟨_, q⟩ <;> cases q), n, Reps.swp h1 k1 k2 ds vs r⟩
  | .ref _, _, h => h
  | .gl _, _, h => h
  | .cl _, _, h => h
theorem Reps.swp (h1 : W.Hf d = some o1) (k1 : Dk kvs o1) (k2 : Dk kvs o2) : ∀ (xs : List D) (vs : List V), Reps K mg W xs vs → Reps K mg (swp W d o2) xs vs
  | [], _, h => h
  | x :: ds, _, ⟨v, r, e, h, t⟩ => ⟨v, r, e, Rep.swp h1 k1 k2 x v h, Reps.swp h1 k1 k2 ds r t⟩
end
theorem CellAt.swp {c : Cell} (h : CellAt K mg W H a c) (h1 : W.Hf d = some o1) (k1 : Dk kvs o1) (k2 : Dk kvs o2) (ne : a ≠ d) : CellAt K mg (swp W d o2) (upd H d o2) a c := by
  cases c with
  | lst ds => obtain ⟨vs, e, r⟩ := h; exact ⟨vs, by rw [upd_ne ne]; exact e, Reps.swp h1 k1 k2 _ _ r⟩
  | dk ks ds => obtain ⟨vs, e, n, r⟩ := h; exact ⟨vs, by rw [upd_ne ne]; exact e, n, Reps.swp h1 k1 k2 _ _ r⟩
  | dt ks ds => obtain ⟨vs, e, n, r⟩ := h; exact ⟨vs, by rw [upd_ne ne]; exact e, n, Reps.swp h1 k1 k2 _ _ r⟩
  | ins c ns ds => obtain ⟨dx, vs, e, n, r⟩ := h; exact ⟨dx, vs, by rw [upd_ne ne]; exact e, n, Reps.swp h1 k1 k2 _ _ r⟩
theorem ne_of_nf (h1 : W.Hf d = some o1) (n : W.Hf a = none) : a ≠ d := fun z => by
  subst z
  rw [h1] at n
  cases n
theorem St0.swp (x : St0 K mg W m H) (h1 : W.Hf d = some o1) (k1 : Dk kvs o1) (k2 : Dk kvs o2) : St0 K mg (swp W d o2) m (upd H d o2) := by
  refine ⟨upd_sub x.sub d o2, x.len, fun i a c e1 e2 => ?_, fun a ha => ?_, x.nd⟩
  · exact (x.cell i a c e1 e2).swp h1 k1 k2 (ne_of_nf h1 (x.nf a (List.mem_of_getElem? e1)))
  · show upd W.Hf d o2 a = none
    rw [upd_ne (ne_of_nf h1 (x.nf a ha))]
    exact x.nf a ha
theorem Own.swp {c : Cell} (x : Own K mg W H a c) (h1 : W.Hf d = some o1) (k1 : Dk kvs o1) (k2 : Dk kvs o2) : Own K mg (swp W d o2) (upd H d o2) a c := by
  have ne := ne_of_nf h1 x.nf
  refine ⟨x.at_.swp h1 k1 k2 ne, ?_, x.nt⟩
  show upd W.Hf d o2 a = none
  rw [upd_ne ne]
  exact x.nf
theorem Holds.swp {s : Sl} {σ : L2.St} (x : Holds K mg W s m σ H) (h1 : W.Hf d = some o1) (k1 : Dk kvs o1) (k2 : Dk kvs o2) : Holds K mg (swp W d o2) s m σ (upd H d o2) := by
  refine ⟨x.toSt0.swp h1 k1 k2, x.slen, fun i y e => ?_, fun i c e => ?_, x.dis⟩
  · obtain ⟨v, q, r⟩ := x.slot i y e
    exact ⟨v, q, Rep.swp h1 k1 k2 _ _ r⟩
  · obtain ⟨b, q, r⟩ := x.own i c e
    exact ⟨b, q, r.swp h1 k1 k2⟩
/-- the step, seen without the lock -/
theorem Step.swp {W3 : Wd} {H3 : Hp} (p : Step (swp W d o2) (upd H d o2) W3 H3) (h1 : W.Hf d = some o1) (hh : H d = some o1) (hn : d ∉ W.th) : Step W H (Dp.swp W3 d o1) (upd H3 d o1) := by
  obtain ⟨more, e, f⟩ := p.th
  refine ⟨fun b o h => ?_, ⟨more, e, fun b hb => ?_⟩, fun b o h n => ?_, fun b o h z n t => ?_⟩
  · show upd W3.Hf d o1 b = some o
    by_cases q : b = d
    · subst q
      rw [h1] at h
      cases h
      exact upd_same
    · rw [upd_ne q]
      exact p.sub b o (by show upd W.Hf d o2 b = some o; rw [upd_ne q]; exact h)
  · have z := f b hb
    by_cases q : b = d
    · subst q
      rw [upd_same] at z
      cases z
    · rw [upd_ne q] at z
      exact z
  · by_cases q : b = d
    · subst q
      rw [hh] at h
      cases h
      exact upd_same
    · rw [upd_ne q]
      exact p.keep b o (by rw [upd_ne q]; exact h) n
  · have q : b ≠ d := ne_of_nf h1 z
    show upd W3.Hf d o1 b = none
    rw [upd_ne q]
    exact p.nofz b o (by rw [upd_ne q]; exact h) (by show upd W.Hf d o2 b = none; rw [upd_ne q]; exact z) n t
/-- a key's tuple is data from now on -/
theorem fz_tup {b : Addr} {k : List Key} (st : St0 K mg W m H) (hb : H b = some (.tup (k.map kV))) : ∃ W1, St0 K mg W1 m H ∧ Step W H W1 H ∧ Rep K mg W1 (.tup (k.map kD)) (.ref b) := by
  have one : ∃ W1, St0 K mg W1 m H ∧ Step W H W1 H ∧ W1.Hf b = some (.tup (k.map kV)) := by
    cases e : W.Hf b with
    | some o =>
      have e2 := st.sub b o e
      rw [hb] at e2
      cases e2
      exact ⟨W, st, Step.refl W H, e⟩
    | none =>
      have nt : b ∉ W.th := fun z => by
        obtain ⟨i, hi, ei⟩ := List.getElem_of_mem z
        have hm : i < m.length := by rw [← st.len]; exact hi
        exact (st.cell i b m[i] (by rw [List.getElem?_eq_getElem hi, ei]) (List.getElem?_eq_getElem hm)).ntup hb _ rfl
      obtain ⟨x2, l2⟩ := st.freeze hb e nt
      refine ⟨_, x2, ⟨l2.sub, ⟨[], by simp, by simp⟩, fun _ _ h _ => h, fun c o h1 h2 h3 h4 => ?_⟩, upd_same⟩
      have ne : c ≠ b := fun z => by
        subst z
        rw [hb] at h1
        cases h1
        exact h4 _ rfl
      show upd W.Hf b _ c = none
      rw [upd_ne ne]
      exact h2
  obtain ⟨W1, st1, p1, e1⟩ := one
  have rk : ∀ ks : List Key, Reps K mg W1 (ks.map kD) (ks.map kV) := by
    intro ks
    induction ks with
    | nil => rfl
    | cons q ks ih => exact ⟨_, _, rfl, by cases q <;> rfl, ih⟩
  exact ⟨W1, st1, p1, b, _, rfl, e1, rk k⟩
theorem it_keysT {od : Obj} (h : W.Hf d = some (.frz od (.dT kvs))) : ItOk K mg W (kvs.map fun p => .tup (p.1.map kD)) (Itkt d od kvs) where
  go := fun W m H i l st hi => ⟨st.sub _ _ (l.sub _ _ h), by rw [List.length_map] at hi; exact hi⟩
  stop := fun W m H i l st hi => ⟨st.sub _ _ (l.sub _ _ h), by rw [List.length_map] at hi; exact hi⟩
  yld := fun W m H i x H' l st hi y => by
    obtain ⟨rfl, k, v, q, e, rfl, hq⟩ := y
    obtain ⟨W1, s1, p1, r1⟩ := fz_tup st hq
    exact ⟨W1, _, by rw [List.getElem?_map, e]; rfl, s1, p1, r1⟩
end
theorem lcL_nx (F : D → Mu → R (Option D)) : ∀ (ds acc : List D) (m m' : Mu) (x : Exn), lcL F ds acc m ≠ .ex x m'
  | [], _, _, _, _, h => by unfold lcL at h; cases h
  | d :: ds, acc, m, m', x, h => by
    unfold lcL at h
    cases e : F d m with
    | bad => rw [e] at h; cases h
    | ex _ _ => rw [e] at h; cases h
    | ok o m1 =>
      rw [e, R.bindN_ok] at h
      cases o with
      | none => exact lcL_nx F ds _ _ _ _ h
      | some y =>
        dsimp only at h
        unfold guardR at h
        split at h
        · exact lcL_nx F ds _ _ _ _ h
        · cases h
section
variable {X : Cx} {Wx : WX}
theorem de_lcd (hc : X.calm = true) (hN : X.N.Nodup) {elt tg iter : Expr} {ifs : List Expr} {scope : Scope} {own : List (Str × Nat)} {pos : Pos} {t : T} {i : Nat} {fc : Sl → Mu → R Bool} {fe : Sl → Mu → R SV} (hv0 : PE X iter (tVar i)) (ok : BlkOk X.N X.env.scope scope own) (hv : ∀ i ∈ t.slots, i ∈ own.map (·.2))
    (hg : ∀ (s : Shared) (H : Hp) (C : Addr) (cl : List (Str × Addr)) (fp : List Addr), PG (X.blk s H scope (compEnvC scope cl C X.env) fp) tg (tGT X.K t)) (ht : ∀ (s : Shared) (H : Hp) (C : Addr) (cl : List (Str × Addr)) (fp : List Addr), PTs (X.blk s H scope (compEnvC scope cl C X.env) fp) ifs (tT X Wx0 fc))
    (he : ∀ (s : Shared) (H : Hp) (C : Addr) (cl : List (Str × Addr)) (fp : List Addr), PE (X.blk s H scope (compEnvC scope cl C X.env) fp) elt (tS X Wx0 fe)) (hs : ∀ x, foldedSetIterable iter X.env x = pure x) :
    PE X (.ListComp elt [⟨tg, iter, ifs, 0⟩] scope pos) (tS X Wx fun s m => match s[i]? with
      | some (some (.val (.dt ks _))) => (lcL (lcF t (own.map (·.2)) fc fe s) (ks.map fun k => .tup (k.map kD)) [] m).bind fun r m5 => .ok (.own (.lst r)) m5
      | _ => .bad) := by
  have h := pe_lc (pos := pos) hc hN (pi_keys (tg := tg) hv0) ok hg ht he hs
  refine ⟨fun pins s σ H Q I ⟨W, sl, m, hd, o⟩ => ?_⟩
  dsimp only at o
  split at o
  case h_2 => exact o.elim
  rename_i ks ds e
  obtain ⟨v, e1, a, vs, rfl, rd, hl, r⟩ := hd.slot i _ e
  have ek : (ks.map fun k => D.tup (k.map kD)) = (ks.zip vs).map fun p => .tup (p.1.map kD) := by
    have : (ks.zip vs).map Prod.fst = ks := List.map_fst_zip (by rw [hl, r.length]; exact Nat.le_refl _)
    conv => lhs; rw [← this]
    rw [List.map_map]
    rfl
  rw [ek] at o
  rcases rd with rd | ⟨od, rd⟩
  · refine (pe_lock h).run pins s σ H Q I ⟨a, _, hd.sub _ _ rd, trivial, fun od => ⟨.ref a, e1, a, od, rfl, .inr ⟨_, upd_same, fun D hD => ?_⟩⟩⟩
    have k1 : Dk (ks.zip vs) (.dT (ks.zip vs)) := .inl rfl
    have k2 : Dk (ks.zip vs) (.frz od (.dT (ks.zip vs))) := .inr ⟨od, rfl⟩
    refine lc_turns (Wx := Wx) (Q := fun v H' => H' a = some (.frz od (.dT (ks.zip vs))) ∧ Q v (upd H' a (.dT (ks.zip vs)))) (fc := fc) (fe := fe) (m1 := m) (hd.swp rd k1 k2) (it_keysT (kvs := ks.zip vs) (od := od) upd_same).s hv ?_ D hD
    revert o
    cases er : lcL (lcF t (own.map (·.2)) fc fe sl) ((ks.zip vs).map fun p => .tup (p.1.map kD)) [] m with
    | bad => exact fun o => o.elim
    | ex x m' => exact absurd er (lcL_nx _ _ _ _ _ _)
    | ok r' m' =>
      intro o W' b H' st p av
      have q2 : W'.Hf a = some (.frz od (.dT (ks.zip vs))) := p.sub _ _ upd_same
      refine ⟨st.sub _ _ q2, ?_⟩
      obtain ⟨pp, eb, ow, hn⟩ := av
      have ne : pp ≠ a := ne_of_nf q2 ow.nf
      refine o (swp W' a (.dT (ks.zip vs))) b (upd H' a (.dT (ks.zip vs))) (st.swp q2 k2 k1) (p.swp rd (hd.sub _ _ rd) fun z => ?_) ⟨pp, eb, ow.swp q2 k2 k1, by rw [upd_ne ne] at hn; exact hn⟩
      have z2 := hd.nf a z
      rw [rd] at z2
      cases z2
  · exact h.run pins s σ H Q I ⟨.ref a, e1, a, od, rfl, .inr ⟨_, hd.sub _ _ rd, fun D hD => lc_turns hd (it_keysT rd).s hv o D hD⟩⟩
theorem ps_setDcg {j : Nat} {z : Str} {zp : Pos} {kex vex tge itr : Expr} {cnd : List Expr} {scp : Scope} {ow : List (Str × Nat)} {pos ap : Pos} {wj : TI} {g : TG} {tt : TT} {tk tv : TE} (hcm : X.calm = true) (hNd : X.N.Nodup) (hz : X.N[j]? = some z) (hzl : X.env.scope.names.lookup z = some .local)
    (hsw : swapsWith (.DictComp kex vex [⟨tge, itr, cnd, 0⟩] scp pos) (some (.Name z zp)) ap.line X.env = pure true) (hit : PI X tge itr wj) (okb : BlkOk X.N X.env.scope scp ow)
    (hgt : ∀ (s : Shared) (H : Hp) (Cc : Addr) (cl : List (Str × Addr)) (fpz : List Addr), PG (X.blk s H scp (compEnvC scp cl Cc X.env) fpz) tge g) (htt : ∀ (s : Shared) (H : Hp) (Cc : Addr) (cl : List (Str × Addr)) (fpz : List Addr), PTs (X.blk s H scp (compEnvC scp cl Cc X.env) fpz) cnd tt)
    (hkk : ∀ (s : Shared) (H : Hp) (Cc : Addr) (cl : List (Str × Addr)) (fpz : List Addr), PE (X.blk s H scp (compEnvC scp cl Cc X.env) fpz) kex tk)
    (hev : ∀ (s : Shared) (H : Hp) (Cc : Addr) (cl : List (Str × Addr)) (fpz : List Addr), PE (X.blk s H scp (compEnvC scp cl Cc X.env) fpz) vex tv) (hst : ∀ x, foldedSetIterable itr X.env x = pure x) (hu : X.A.units + 1 < cLine)
    {o0 : HO} (he0 : ∀ (H' : Hp) (hp : Heap), sysModules < hp.objs.size → ObjOk X.prog X.w H' (hp.push { cls := .type "dict", data := .dict #[] }) hp.objs.size o0) :
    PS X (.Assign [.Name z zp] (.DictComp kex vex [⟨tge, itr, cnd, 0⟩] scp pos) ap) (tAsg (tDcg o0 wj g tt tk tv (ow.map (·.2))) (gName j)) := by
  refine ⟨fun pz s τ H D I h => ?_⟩
  rw [exec_Assign_Name_used _ _ _ _ hsw]
  refine wpAny_bind (wpAny_standAt (wpAny_bind ?_))
  show wpAny _ X.A (do let _ ← comprehension (.DictComp kex vex [⟨tge, itr, cnd, 0⟩] scp pos) scp X.env (firstIterPos [⟨tge, itr, cnd, 0⟩] pos) newDict false (eval itr X.env) (some (assign (.Name z zp) X.env))) _ _ s
  have h : tDcg o0 wj g tt tk tv (ow.map (·.2)) τ H (fun x H1 => gName j x τ H1 D.nx) := h
  refine wpAny_bind (thn (dcg_core (Qf := fun _ s' => SP X pz D .next s') hcm hNd I hit okb hgt htt hkk hev hst hu he0 h fun Dd Cc s' m H' J q hn f => ?_) fun _ s' hq => wpAny_pure (wpAny_pure hq))
  show wpAny _ _ (assign (.Name z zp) X.env (.ref Dd)) _ _ _
  refine wpAny_assign_Name (store_ok2 (v := V.ref Dd) J hNd hz (.inl hzl) rfl (fun s2 J2 ⟨a, sb, ha⟩ => ?_) (.inr hzl))
  obtain ⟨f0, f1, f2, f3, f4, f5⟩ := f
  have nca : Cc ≠ a := by
    rcases ha with e | e
    · rw [e]
      exact f1
    · exact fun q => f4 z a e q.symm
  exact ⟨m, hn.sameBut sb nca, fun h3 sb3 => ⟨_, H', J2.turned (t' := s2.toks) (fun b o hb e => (sb3.2 b hb).trans e) f0 f1 f3 f4 f5, q⟩⟩
end
end Dp
end

section
set_option Elab.async false
set_option linter.all false
set_option maxRecDepth 100000
set_option maxHeartbeats 4000000
/-! The deep layer, part 18: what is matched, holds (expressions). -/
namespace Dp
open PySem PySem.Spec PyProof.Rows L2
section
variable {X : Cx} {Wx : WX}
theorem pe_cast {a : Expr} {f g : Sl → Mu → R SV} (h : PE X a (tS X Wx f)) (k : ∀ s m, g s m = f s m) : PE X a (tS X Wx g) := by
  rw [show g = f from funext fun s => funext fun m => k s m]
  exact h
theorem pep_cast {a : Expr} {f g : Sl → Mu → R D} (h : PE X a (tP X Wx f)) (k : ∀ s m, g s m = f s m) : PE X a (tP X Wx g) := by
  rw [show g = f from funext fun s => funext fun m => k s m]
  exact h
theorem pt_cast {a : Expr} {f g : Sl → Mu → R Bool} (h : PT X a (tT X Wx f)) (k : ∀ s m, g s m = f s m) : PT X a (tT X Wx g) := by
  rw [show g = f from funext fun s => funext fun m => k s m]
  exact h
theorem pw_cast {a : Expr} {f g : Sl → Mu → R Bool} (h : PW X a (tT X Wx f)) (k : ∀ s m, g s m = f s m) : PW X a (tT X Wx g) := by
  rw [show g = f from funext fun s => funext fun m => k s m]
  exact h
theorem pa_cast {a : List Expr} {f g : Sl → Mu → R (List D)} (h : PA X a (tL X Wx f)) (k : ∀ s m, g s m = f s m) : PA X a (tL X Wx g) := by
  rw [show g = f from funext fun s => funext fun m => k s m]
  exact h
theorem pap_cast {a : List Expr} {f g : Sl → Mu → R (List D)} (h : PA X a (tLP X Wx f)) (k : ∀ s m, g s m = f s m) : PA X a (tLP X Wx g) := by
  rw [show g = f from funext fun s => funext fun m => k s m]
  exact h
theorem po_cast {a : Option Expr} {f g : Sl → Mu → R (Option Int)} (h : PO X a (tO X Wx f)) (k : ∀ s m, g s m = f s m) : PO X a (tO X Wx g) := by
  rw [show g = f from funext fun s => funext fun m => k s m]
  exact h
theorem pts_cast {a : List Expr} {f g : Sl → Mu → R Bool} (h : PTs X a (tT X Wx f)) (k : ∀ s m, g s m = f s m) : PTs X a (tT X Wx g) := by
  rw [show g = f from funext fun s => funext fun m => k s m]
  exact h
theorem pi_cast {tg a : Expr} {f g : Sl → Mu → R (List D)} (h : PI X tg a (tI X Wx f)) (k : ∀ s m, g s m = f s m) : PI X tg a (tI X Wx g) := by
  rw [show g = f from funext fun s => funext fun m => k s m]
  exact h
theorem pe_bool1 {op : BoolOp} {a : Expr} {pos : Pos} {t : TE} (h : PE X a t) : PE X (.BoolOp op [a] pos) t := ⟨fun pins s σ H Q I hw => h.run pins s σ H Q I hw⟩
theorem pts0 : PTs X [] (tT X Wx fun _ m => .ok true m) := ⟨fun pins s σ H Q I ⟨W, sl, m, hs, o⟩ => pts_nil.run pins s σ H Q I (o.fin hs.toSt0 rfl)⟩
end
theorem all_star {es : List Expr} (h : ∀ e ∈ es, noStar e = true) : es.all noStar = true := List.all_eq_true.mpr h
section
variable {G : Prog} {n : Nat}
theorem Mat.blk {c : MC} {X : Cx} (M : Mat c X) (s : Shared) (H : Hp) (scope : Scope) (C : Addr) (cl : List (Str × Addr)) (fp : List Addr) : Mat (c.blk scope) (X.blk s H scope (compEnvC scope cl C X.env) fp) where
  N := M.N
  sc := by
    show relabel scope X.env = relS scope c.sc
    rw [← M.sc]
    rfl
  fn := fun h => by cases h
theorem ty_list {ts : List Ty} {es : List Expr} (h : tyList ts es = true) : es.length = ts.length ∧ ∀ (i : Nat) (t : Ty) (e : Expr), ts[i]? = some t → es[i]? = some e → ∃ p, e = .Name (tyNm t) p := by
  induction ts generalizing es with
  | nil =>
    cases es with
    | nil => exact ⟨rfl, fun i t e h => by simp at h⟩
    | cons e es => cases h
  | cons t ts ih =>
    cases es with
    | nil => cases h
    | cons e es =>
      cases e <;> try (cases h; done)
      rename_i y p
      obtain ⟨h1, h2⟩ := Bool.and_eq_true_iff.mp (show (decide (y = tyNm t) && tyList ts es) = true from h)
      obtain ⟨i1, i2⟩ := ih h2
      refine ⟨by simp [i1], fun i t' e' a b => ?_⟩
      cases i with
      | zero =>
        simp at a b
        subst a b
        exact ⟨p, by rw [of_decide_eq_true h1]⟩
      | succ i => exact i2 i t' e' (by simpa using a) (by simpa using b)
theorem gNames_ok {c : MC} {X : Cx} (M : Mat c X) (hN : X.N.Nodup) : ∀ {l : List Nat} {es : List Expr}, l.length = es.length → ((l.zip es).all fun p => match p.2 with
    | .Name x _ => decide (c.N[p.1]? = some x) && locB c x
    | _ => false) = true → PGs X es (gNames l) ∧ (assignEach es X.env).length = l.length ∧ (assignEach es X.env).findIdx? (·.1) = none
  | [], [], _, _ => ⟨pgs_nil, rfl, rfl⟩
  | i :: l, e :: es, hl, h => by
    rw [List.zip_cons_cons, List.all_cons] at h
    obtain ⟨h1, h2⟩ := Bool.and_eq_true_iff.mp h
    obtain ⟨i1, i2, i3⟩ := gNames_ok M hN (l := l) (es := es) (by simpa using hl) h2
    cases e <;> try (cases h1; done)
    rename_i x p
    obtain ⟨h3, h4⟩ := Bool.and_eq_true_iff.mp (show (decide (c.N[i]? = some x) && locB c x) = true from h1)
    obtain ⟨l1, l2⟩ := loc_ok M h4
    refine ⟨pgs_cons (pg_name hN (by rw [M.N]; exact of_decide_eq_true h3) l1 l2) i1 rfl, ?_, ?_⟩
    · show (assignEach es X.env).length + 1 = l.length + 1
      rw [i2]
    · show List.findIdx? _ ((false, assign (.Name x p) X.env) :: assignEach es X.env) = none
      rw [List.findIdx?_cons]
      simp [i3]
  | [], _ :: _, hl, _ => by simp at hl
  | _ :: _, [], hl, _ => by simp at hl
theorem sT {c : MC} {X : Cx} (M : Mat c X) (hN : X.N.Nodup) (hc : X.calm = true) {t : T} {a : Expr} (h : mT c t a = true) : PG X a (tGT X.K t) := by
  cases t with
  | nm i =>
    cases a <;> try (cases h; done)
    rename_i x p
    obtain ⟨h3, h4⟩ := Bool.and_eq_true_iff.mp (show (decide (c.N[i]? = some x) && locB c x) = true from h)
    obtain ⟨l1, l2⟩ := loc_ok M h4
    exact pg_name hN (by rw [M.N]; exact of_decide_eq_true h3) l1 l2
  | tp l =>
    cases a <;> try (cases h; done)
    rename_i es k p
    obtain ⟨h1, h2⟩ := Bool.and_eq_true_iff.mp (show (decide (l.length = es.length) && (l.zip es).all fun p => match p.2 with
      | .Name x _ => decide (c.N[p.1]? = some x) && locB c x
      | _ => false) = true from h)
    obtain ⟨i1, i2, i3⟩ := gNames_ok M hN (of_decide_eq_true h1) h2
    exact pg_tup hc i1 i2 i3
  | tl l =>
    cases a <;> try (cases h; done)
    rename_i es k p
    obtain ⟨h1, h2⟩ := Bool.and_eq_true_iff.mp (show (decide (l.length = es.length) && (l.zip es).all fun p => match p.2 with
      | .Name x _ => decide (c.N[p.1]? = some x) && locB c x
      | _ => false) = true from h)
    obtain ⟨i1, i2, i3⟩ := gNames_ok M hN (of_decide_eq_true h1) h2
    exact pg_lst hc i1 i2 i3
theorem lookup_mets {mn : Str} {cs : List (Str × Nat)} (h : (cs.all fun p => decide (((p.1, mn), p.2) ∈ G.mets)) = true) : ∀ c k, cs.lookup c = some k → ((c, mn), k) ∈ G.mets := fun c k e =>
  of_decide_eq_true (List.all_eq_true.mp h (c, k) (lookup_str e))
theorem lookup_props {mn : Str} {cs : List (Str × Nat)} (h : (cs.all fun p => decide (((p.1, mn), p.2) ∈ G.props)) = true) : ∀ c k, cs.lookup c = some k → ((c, mn), k) ∈ G.props := fun c k e =>
  of_decide_eq_true (List.all_eq_true.mp h (c, k) (lookup_str e))
theorem lookup_ops {o : BO} {cs : List (Str × Nat)} (h : (cs.all fun p => decide (((p.1, o), p.2) ∈ G.ops)) = true) : ∀ c k, cs.lookup c = some k → ((c, o), k) ∈ G.ops := fun c k e =>
  of_decide_eq_true (List.all_eq_true.mp h (c, k) (lookup_str e))
theorem mEs_star {es : Es} {c : MC} {l : List Expr} (h : mEs G es c l = true) : l.all noStar = true := by
  induction l generalizing es with
  | nil => rfl
  | cons a as ih =>
    cases es with
    | nil => unfold mEs at h; cases h
    | cons e r =>
      unfold mEs at h
      obtain ⟨h1, h2⟩ := Bool.and_eq_true_iff.mp h
      obtain ⟨h3, h4⟩ := Bool.and_eq_true_iff.mp h2
      rw [List.all_cons, h1, ih h4]
      rfl
theorem mPs_star {es : Ps} {c : MC} {l : List Expr} (h : mPs G es c l = true) : l.all noStar = true := by
  induction l generalizing es with
  | nil => rfl
  | cons a as ih =>
    cases es with
    | nil => unfold mPs at h; cases h
    | cons e r =>
      unfold mPs at h
      obtain ⟨h1, h2⟩ := Bool.and_eq_true_iff.mp h
      obtain ⟨h3, h4⟩ := Bool.and_eq_true_iff.mp h2
      rw [List.all_cons, h1, ih h4]
      rfl
theorem fnB_ok {c : MC} {k : Nat} {x : Str} (h : fnB G c k x = true) : ∃ f, G.fns[k]? = some f ∧ f.at_.2 = none ∧ f.at_.1 = x ∧ (x == ("__debug__" : Str)) = false ∧ glB c.sc x = true := by
  unfold fnB at h
  obtain ⟨h1, h2⟩ := Bool.and_eq_true_iff.mp h
  obtain ⟨h3, h4⟩ := Bool.and_eq_true_iff.mp h2
  split at h1
  · rename_i f e
    obtain ⟨h5, h6⟩ := Bool.and_eq_true_iff.mp h1
    exact ⟨f, e, of_decide_eq_true h5, of_decide_eq_true h6, by simpa using h3, h4⟩
  · cases h1
mutual
theorem sE : ∀ (e : E) {c : MC} {X : Cx} {Wx : WX} {a : Expr}, Xok G n X Wx → Mat c X → mE G e c a = true → PE X a (tS X Wx (evE G (callN G n) e))
  | .var i, c, X, Wx, a, x, M, h => by
    unfold mE at h
    split at h
    · exact pe_cast (de_var (nm_ok M h)) fun _ _ => rfl
    · cases h
  | .int k, c, X, Wx, a, x, M, h => by
    unfold mE at h
    split at h
    · rw [of_decide_eq_true h]
      exact pe_cast (de_c (d := .int _) pe_int fun _ => rfl) fun _ _ => rfl
    · cases h
  | .bl k, c, X, Wx, a, x, M, h => by
    unfold mE at h
    split at h
    · rw [of_decide_eq_true h]
      exact pe_cast (de_c (d := .bl _) pe_bl fun _ => rfl) fun _ _ => rfl
    · cases h
  | .non, c, X, Wx, a, x, M, h => by
    unfold mE at h
    split at h
    · exact pe_cast (de_c (d := .non) pe_non fun _ => rfl) fun _ _ => rfl
    · cases h
  | .str k, c, X, Wx, a, x, M, h => by
    unfold mE at h
    split at h
    · rw [of_decide_eq_true h]
      exact pe_cast (de_c (d := .str _) pe_str fun _ => rfl) fun _ _ => rfl
    · cases h
  | .gint z k, c, X, Wx, a, x, M, h => by
    unfold mE at h
    split at h
    · simp only [Bool.and_eq_true, decide_eq_true_eq, Bool.not_eq_true'] at h
      obtain ⟨h1, h2, h3, h4⟩ := h
      subst h1
      exact pe_cast (de_gint x h4 (gl_ok M h2) h3) fun _ _ => rfl
    · cases h
  | .gdef z, c, X, Wx, a, x, M, h => by
    unfold mE at h
    cases h
  | .bin o p q, c, X, Wx, a, x, M, h => by
    unfold mE at h
    split at h
    · simp only [Bool.and_eq_true, decide_eq_true_eq] at h
      obtain ⟨h1, h2, h3⟩ := h
      subst h1
      exact pe_cast (de_bin (sP p x M h2) (sP q x M h3)) fun _ _ => rfl
    · cases h
  | .neg p, c, X, Wx, a, x, M, h => by
    unfold mE at h
    split at h
    · exact pe_cast (de_neg (sE p x M h)) fun _ _ => rfl
    · cases h
  | .cmp o p q, c, X, Wx, a, x, M, h => by
    unfold mE at h
    split at h
    · simp only [Bool.and_eq_true, decide_eq_true_eq, Bool.not_eq_true'] at h
      obtain ⟨h1, h2, h3, h4⟩ := h
      subst h1
      exact pe_cast (de_cmp x.units (sP p x M h2) (sP q x M h3) h4) fun _ _ => rfl
    · cases h
  | .chn o o2 p q r, c, X, Wx, a, x, M, h => by
    unfold mE at h
    split at h
    · simp only [Bool.and_eq_true, decide_eq_true_eq, Bool.not_eq_true'] at h
      obtain ⟨h1, h2, h3, h4, h5, h6⟩ := h
      subst h1 h2
      exact pe_cast (de_chn x.units (sE p x M h3) (sE q x M h4) (sE r x M h5) h6) fun _ _ => rfl
    · cases h
  | .not p, c, X, Wx, a, x, M, h => by
    unfold mE at h
    split at h
    · exact pe_cast (de_not (sE p x M h)) fun _ _ => rfl
    · cases h
  | .and es, c, X, Wx, a, x, M, h => by
    unfold mE at h
    split at h
    · exact pe_cast (sAnd es x M h) fun _ _ => rfl
    · cases h
  | .or es, c, X, Wx, a, x, M, h => by
    unfold mE at h
    split at h
    · exact pe_cast (sOr es x M h) fun _ _ => rfl
    · cases h
  | .ife t p q, c, X, Wx, a, x, M, h => by
    unfold mE at h
    split at h
    · simp only [Bool.and_eq_true] at h
      obtain ⟨h1, h2, h3⟩ := h
      exact pe_cast (de_ife (sB t x M h1) (sE p x M h2) (sE q x M h3)) fun _ _ => rfl
    · cases h
  | .tup es, c, X, Wx, a, x, M, h => by
    unfold mE at h
    split at h
    · exact pe_cast (de_tup (sEs es x M h)) fun _ _ => rfl
    · cases h
  | .lst es, c, X, Wx, a, x, M, h => by
    unfold mE at h
    split at h
    · exact pe_cast (de_lst (sEs es x M h)) fun _ _ => rfl
    · cases h
  | .idx p q, c, X, Wx, a, x, M, h => by
    unfold mE at h
    split at h
    · simp only [Bool.and_eq_true] at h
      obtain ⟨h1, h2, h3⟩ := h
      exact pe_cast (de_idx x.units (sP p x M h2) (sE q x M h3) (ix_ok h1)) fun _ _ => rfl
    · cases h
  | .slc p lo hi, c, X, Wx, a, x, M, h => by
    unfold mE at h
    split at h
    · simp only [Bool.and_eq_true] at h
      obtain ⟨h1, h2, h3⟩ := h
      exact pe_cast (de_slc (sP p x M h1) (sO lo x M h2) (sO hi x M h3)) fun _ _ => rfl
    · cases h
  | .call k es, c, X, Wx, a, x, M, h => by
    unfold mE at h
    split at h
    · rename_i args _
      obtain ⟨h1, h2⟩ := Bool.and_eq_true_iff.mp h
      obtain ⟨f, hf, e1, e2, e3, e4⟩ := fnB_ok h1
      subst e2
      have hs := mEs_star h2
      have ha := sEs es x M h2
      cases args with
      | nil =>
        cases es with
        | nil => exact pe_cast (de_call0 x hf e1 e3 (gl_ok M e4)) fun _ _ => rfl
        | cons e r => unfold mEs at h2; cases h2
      | cons a as =>
        obtain ⟨n1, n2⟩ := Bool.and_eq_true_iff.mp (show (noStar a && as.all noStar) = true from hs)
        exact pe_cast (de_call x hf e1 e3 (gl_ok M e4) n1 n2 ha) fun _ _ => rfl
    · cases h
  | .new cn k es, c, X, Wx, a, x, M, h => by
    unfold mE at h
    split at h
    · simp only [Bool.and_eq_true, decide_eq_true_eq, Bool.not_eq_true'] at h
      obtain ⟨h1, h2, h3, h4, h5⟩ := h
      subst h1
      obtain ⟨n1, n2⟩ := Bool.and_eq_true_iff.mp (show (noStar _ && List.all _ noStar) = true from mEs_star h5)
      obtain ⟨f, hf, _⟩ := x.fx.news _ h2
      exact pe_cast (de_new x (f := f) h2 h3 (gl_ok M h4) n1 n2 (sEs es x M h5)) fun _ _ => rfl
    · cases h
  | .meth o mn cs es, c, X, Wx, a, x, M, h => by
    unfold mE at h
    split at h
    · rename_i args _
      simp only [Bool.and_eq_true, decide_eq_true_eq] at h
      obtain ⟨h1, h2, h3, h4, h5, h6, h7⟩ := h
      subst h1
      have hs := mEs_star h7
      have ha := sEs es x M h7
      cases args with
      | nil =>
        cases es with
        | nil => exact pe_cast (de_meth0 x (lookup_mets h5) (sE o x M h6) h2 h3) fun _ _ => rfl
        | cons e r => unfold mEs at h7; cases h7
      | cons a as =>
        obtain ⟨n1, n2⟩ := Bool.and_eq_true_iff.mp (show (noStar a && as.all noStar) = true from hs)
        exact pe_cast (de_meth x (lookup_mets h5) (sE o x M h6) n1 n2 ha (meth_tree h2 hs h3 h4)) fun _ _ => rfl
    · cases h
  | .attr o f, c, X, Wx, a, x, M, h => by
    unfold mE at h
    split at h
    · simp only [Bool.and_eq_true, decide_eq_true_eq] at h
      obtain ⟨h1, h2, h3⟩ := h
      subst h1
      exact pe_cast (de_attr x (sP o x M h3) h2) fun _ _ => rfl
    · cases h
  | .bif f es, c, X, Wx, a, x, M, h => by
    unfold mE at h
    split at h
    · simp only [Bool.and_eq_true, decide_eq_true_eq] at h
      obtain ⟨h1, h2, h3, h4⟩ := h
      subst h2
      have hs := mPs_star h4
      obtain ⟨n1, n2⟩ := Bool.and_eq_true_iff.mp (show (noStar _ && List.all _ noStar) = true from hs)
      exact pe_cast (de_bif x.calm (by have := x.units; omega) h1 (gl_ok M h3) (x.fx.blt _ (by cases f <;> decide)) (sPs es x M h4) (star_cons n1) (star_any n2)) fun _ _ => rfl
    · simp only [Bool.and_eq_true, decide_eq_true_eq] at h
      obtain ⟨h1, h2, h3, h4, h5⟩ := h
      subst h1 h2 h3
      have hs := mPs_star h5
      obtain ⟨n1, n2⟩ := Bool.and_eq_true_iff.mp (show (noStar _ && List.all _ noStar) = true from hs)
      exact pe_cast (de_sortR x.fx x.calm (gl_ok M h4) (sPs es x M h5) n1) fun _ _ => rfl
    · cases h
  | .leno p ks, c, X, Wx, a, x, M, h => by
    unfold mE at h
    split at h
    · simp only [Bool.and_eq_true, decide_eq_true_eq] at h
      obtain ⟨h1, h2, h3, h4, h5⟩ := h
      subst h1
      exact pe_cast (de_leno x (lookup_mets h3) (gl_ok M h2) (sE p x M h5) h4) fun _ _ => rfl
    · cases h
  | .isi p t, c, X, Wx, a, x, M, h => by
    unfold mE at h
    split at h
    · simp only [Bool.and_eq_true, decide_eq_true_eq] at h
      obtain ⟨h1, h2, h3, h4, h5, h6⟩ := h
      subst h1 h3
      obtain ⟨t1, t2⟩ := Bool.and_eq_true_iff.mp h4
      exact pe_cast (de_isi x.fx (gl_ok M h2) t1 (gl_ok M t2) (sE p x M h6) h5) fun _ _ => rfl
    · cases h
  | .isis p ts, c, X, Wx, a, x, M, h => by
    unfold mE at h
    split at h
    · simp only [Bool.and_eq_true, decide_eq_true_eq] at h
      obtain ⟨h1, h2, h3, h3b, h4, h5, h6, h7⟩ := h
      subst h1
      cases ts with
      | nil => cases h3
      | cons t ts =>
        obtain ⟨l1, l2⟩ := ty_list h4
        exact pe_cast (de_isis x.fx (gl_ok M h2) l1 l2 (fun t' ht => by
          obtain ⟨t1, t2⟩ := Bool.and_eq_true_iff.mp (List.all_eq_true.mp h5 t' ht)
          exact ⟨t1, gl_ok M t2⟩) (by rw [sizeLine_eq]; omega) (sE p x M h7) h6) fun _ _ => rfl
    · cases h
  | .lc t own it cd e, c, X, Wx, a, x, M, h => by
    unfold mE at h
    split at h
    · simp only [Bool.and_eq_true, decide_eq_true_eq] at h
      obtain ⟨h0, h1, h2, h3, h4, h5, h6, h7⟩ := h
      subst h0
      rw [← M.N, ← M.sc] at h2
      exact pe_cast (de_lc x.calm x.nd (sI it x M h5) (blkOk_by h2) (fun i hi => of_decide_eq_true (List.all_eq_true.mp h3 i hi))
        (fun s H C cl fp => sT (M.blk s H _ C cl fp) x.nd x.calm h4) (fun s H C cl fp => sOB cd (x.blk s H _ _ fp) (M.blk s H _ C cl fp) h6) (fun s H C cl fp => sE e (x.blk s H _ _ fp) (M.blk s H _ C cl fp) h7) (set_ok h1)) fun _ _ => rfl
    · cases h
  | .mpop o, c, X, Wx, a, x, M, h => by
    unfold mE at h
    split at h
    · simp only [Bool.and_eq_true, decide_eq_true_eq] at h
      obtain ⟨h1, h2, h3, h4⟩ := h
      subst h1
      exact pe_cast (de_mpop (sE o x M h4) h2 h3) fun _ _ => rfl
    · cases h
  | .mpopI o e, c, X, Wx, a, x, M, h => by
    unfold mE at h
    split at h
    · simp only [Bool.and_eq_true, decide_eq_true_eq] at h
      obtain ⟨h1, h2, h3, h4, h5, h6⟩ := h
      subst h1
      exact pe_cast (de_mpopI (sE o x M h5) (sE e x M h6) h2 h4 h3) fun _ _ => rfl
    · cases h
  | .dset p q, c, X, Wx, a, x, M, h => by
    unfold mE at h
    split at h
    · simp only [Bool.and_eq_true, decide_eq_true_eq] at h
      obtain ⟨h1, h2⟩ := h
      exact pe_cast (de_dset x.units (sE p x M h1) (sE q x M h2)) fun _ _ => rfl
    · cases h
  | .dget o p q, c, X, Wx, a, x, M, h => by
    unfold mE at h
    split at h
    · simp only [Bool.and_eq_true, decide_eq_true_eq] at h
      obtain ⟨h1, h2, h3, h4, h5, h6, h7, h8⟩ := h
      subst h1
      exact pe_cast (de_dget x.units (sP o x M h6) (sE p x M h7) (sE q x M h8) h2 h4 h5 h3) fun _ _ => rfl
    · cases h
  | .inm neg p o ks, c, X, Wx, a, x, M, h => by
    unfold mE at h
    split at h
    · simp only [Bool.and_eq_true, decide_eq_true_eq, Bool.not_eq_true'] at h
      obtain ⟨h1, h2, h3, h4, h5⟩ := h
      subst h1
      exact pe_cast (de_inm x (lookup_mets h3) (sE p x M h4) (sE o x M h5) h2) fun _ _ => rfl
    · cases h
  | .dnew tk, c, X, Wx, a, x, M, h => by
    unfold mE at h
    split at h
    · cases tk with
      | true => exact pe_cast de_dnewT fun _ _ => rfl
      | false => exact pe_cast de_dnewK fun _ _ => rfl
    · cases h
  | .prop o f cs, c, X, Wx, a, x, M, h => by
    unfold mE at h
    split at h
    · simp only [Bool.and_eq_true, decide_eq_true_eq] at h
      obtain ⟨h1, h2, h3, h4⟩ := h
      subst h1
      exact pe_cast (de_prop x (lookup_props h3) (sE o x M h4) h2) fun _ _ => rfl
    · cases h
  | .cmeth cn mn k es, c, X, Wx, a, x, M, h => by
    unfold mE at h
    split at h
    · simp only [Bool.and_eq_true, decide_eq_true_eq, Bool.not_eq_true'] at h
      obtain ⟨h1, h2, h3, h4, h5, h6, h7, h8⟩ := h
      subst h1 h2
      have hs := mEs_star h8
      obtain ⟨n1, n2⟩ := Bool.and_eq_true_iff.mp (show (noStar _ && List.all _ noStar) = true from hs)
      exact pe_cast (de_cmeth x h3 h4 (gl_ok M h5) n1 n2 (sEs es x M h8) (meth_tree rfl hs h6 h7)) fun _ _ => rfl
    · cases h
  | .newv i cn k es, c, X, Wx, a, x, M, h => by
    unfold mE at h
    split at h
    · simp only [Bool.and_eq_true, decide_eq_true_eq] at h
      obtain ⟨h1, h2, h3⟩ := h
      obtain ⟨n1, n2⟩ := Bool.and_eq_true_iff.mp (show (noStar _ && List.all _ noStar) = true from mEs_star h3)
      exact pe_cast (de_newv x h2 (nm_ok M h1) n1 n2 (sEs es x M h3)) fun _ _ => rfl
    · cases h
  | .bop o ks p q, c, X, Wx, a, x, M, h => by
    unfold mE at h
    split at h
    · simp only [Bool.and_eq_true, decide_eq_true_eq] at h
      obtain ⟨h1, h2, h3, h4⟩ := h
      subst h1
      exact pe_cast (de_bop x (lookup_ops h2) (sE p x M h3) (sE q x M h4)) fun _ _ => rfl
    · cases h
  | .dc tk t own it cd k v, c, X, Wx, a, x, M, h => by
    unfold mE at h
    split at h
    · simp only [Bool.and_eq_true, decide_eq_true_eq] at h
      obtain ⟨h0, h1, h2, h3, h4, h5, h6, h7, h8⟩ := h
      subst h0
      rw [← M.N, ← M.sc] at h2
      exact pe_cast (de_dc (tk := tk) x.calm x.nd x.units (sI it x M h5) (blkOk_by h2) (fun i hi => of_decide_eq_true (List.all_eq_true.mp h3 i hi))
        (fun s H C cl fp => sT (M.blk s H _ C cl fp) x.nd x.calm h4) (fun s H C cl fp => sOB cd (x.blk s H _ _ fp) (M.blk s H _ C cl fp) h6) (fun s H C cl fp => sE k (x.blk s H _ _ fp) (M.blk s H _ C cl fp) h7) (fun s H C cl fp => sE v (x.blk s H _ _ fp) (M.blk s H _ C cl fp) h8) (set_ok h1)) fun _ _ => rfl
    · cases h
  | .lcd i t own cd e, c, X, Wx, a, x, M, h => by
    unfold mE at h
    split at h
    · simp only [Bool.and_eq_true, decide_eq_true_eq] at h
      obtain ⟨h0, h1, h2, h3, h4, h6, h7⟩ := h
      subst h0
      rw [← M.N, ← M.sc] at h2
      exact pe_cast (de_lcd x.calm x.nd (nm_ok M h1) (blkOk_by h2) (fun i hi => of_decide_eq_true (List.all_eq_true.mp h3 i hi))
        (fun s H C cl fp => sT (M.blk s H _ C cl fp) x.nd x.calm h4) (fun s H C cl fp => sOB cd (x.blk s H _ _ fp) (M.blk s H _ C cl fp) h6) (fun s H C cl fp => sE e (x.blk s H _ _ fp) (M.blk s H _ C cl fp) h7) (fun _ => rfl)) fun _ _ => rfl
    · cases h
  | .lco i t own cd e, c, X, Wx, a, x, M, h => by
    unfold mE at h
    split at h
    · simp only [Bool.and_eq_true, decide_eq_true_eq] at h
      obtain ⟨h0, h1, h2, h3, h4, h6, h7⟩ := h
      subst h0
      rw [← M.N, ← M.sc] at h2
      exact pe_cast (de_lco x.calm x.nd (nm_ok M h1) (blkOk_by h2) (fun i hi => of_decide_eq_true (List.all_eq_true.mp h3 i hi))
        (fun s H C cl fp => sT (M.blk s H _ C cl fp) x.nd x.calm h4) (fun s H C cl fp => sOB cd (x.blk s H _ _ fp) (M.blk s H _ C cl fp) h6) (fun s H C cl fp => sE e (x.blk s H _ _ fp) (M.blk s H _ C cl fp) h7) (fun _ => rfl)) fun _ _ => rfl
    · cases h
theorem sEs : ∀ (es : Es) {c : MC} {X : Cx} {Wx : WX} {l : List Expr}, Xok G n X Wx → Mat c X → mEs G es c l = true → PA X l (tL X Wx (evEs G (callN G n) es))
  | .nil, c, X, Wx, l, x, M, h => by
    unfold mEs at h
    split at h
    · exact pa_cast da_nil fun _ _ => rfl
    · cases h
  | .cons e r, c, X, Wx, l, x, M, h => by
    unfold mEs at h
    split at h
    · simp only [Bool.and_eq_true] at h
      obtain ⟨h1, h2, h3⟩ := h
      exact pa_cast (da_cons (sE e x M h2) (sEs r x M h3) (star_cons h1)) fun _ _ => rfl
    · cases h
theorem sAnd : ∀ (es : Es) {c : MC} {X : Cx} {Wx : WX} {l : List Expr} {pos : Pos}, Xok G n X Wx → Mat c X → mAnd G es c l = true → PE X (.BoolOp .And l pos) (tS X Wx (evAnd G (callN G n) es))
  | .nil, c, X, Wx, l, pos, x, M, h => by
    unfold mAnd at h
    cases h
  | .cons e r, c, X, Wx, l, pos, x, M, h => by
    unfold mAnd at h
    split at h
    · exact pe_cast (pe_bool1 (sE e x M h)) fun _ _ => rfl
    · obtain ⟨h1, h2⟩ := Bool.and_eq_true_iff.mp h
      exact pe_cast (de_and (sE e x M h1) (sAnd _ x M h2)) fun _ _ => rfl
    · cases h
theorem sOr : ∀ (es : Es) {c : MC} {X : Cx} {Wx : WX} {l : List Expr} {pos : Pos}, Xok G n X Wx → Mat c X → mAnd G es c l = true → PE X (.BoolOp .Or l pos) (tS X Wx (evOr G (callN G n) es))
  | .nil, c, X, Wx, l, pos, x, M, h => by
    unfold mAnd at h
    cases h
  | .cons e r, c, X, Wx, l, pos, x, M, h => by
    unfold mAnd at h
    split at h
    · exact pe_cast (pe_bool1 (sE e x M h)) fun _ _ => rfl
    · obtain ⟨h1, h2⟩ := Bool.and_eq_true_iff.mp h
      exact pe_cast (de_or (sE e x M h1) (sOr _ x M h2)) fun _ _ => rfl
    · cases h
theorem sP : ∀ (p : P) {c : MC} {X : Cx} {Wx : WX} {a : Expr}, Xok G n X Wx → Mat c X → mP G p c a = true → PE X a (tP X Wx (evP G (callN G n) p))
  | .e e, c, X, Wx, a, x, M, h => by
    unfold mP at h
    exact pep_cast (dp_e (sE e x M h)) fun _ _ => rfl
  | .sl i, c, X, Wx, a, x, M, h => by
    unfold mP at h
    split at h
    · exact pep_cast (dp_sl (nm_ok M h)) fun _ _ => rfl
    · cases h
theorem sPs : ∀ (es : Ps) {c : MC} {X : Cx} {Wx : WX} {l : List Expr}, Xok G n X Wx → Mat c X → mPs G es c l = true → PA X l (tLP X Wx (evPs G (callN G n) es))
  | .nil, c, X, Wx, l, x, M, h => by
    unfold mPs at h
    split at h
    · exact pap_cast dap_nil fun _ _ => rfl
    · cases h
  | .cons e r, c, X, Wx, l, x, M, h => by
    unfold mPs at h
    split at h
    · simp only [Bool.and_eq_true] at h
      obtain ⟨h1, h2, h3⟩ := h
      exact pap_cast (dap_cons (sP e x M h2) (sPs r x M h3) (star_cons h1)) fun _ _ => rfl
    · cases h
theorem sO : ∀ (o : O) {c : MC} {X : Cx} {Wx : WX} {a : Option Expr}, Xok G n X Wx → Mat c X → mO G o c a = true → PO X a (tO X Wx (evO G (callN G n) o))
  | .none, c, X, Wx, a, x, M, h => by
    unfold mO at h
    split at h
    · exact po_cast do_none fun _ _ => rfl
    · cases h
  | .some e, c, X, Wx, a, x, M, h => by
    unfold mO at h
    split at h
    · exact po_cast (do_some (sE e x M h)) fun _ _ => rfl
    · cases h
theorem sOB : ∀ (o : OB) {c : MC} {X : Cx} {Wx : WX} {l : List Expr}, Xok G n X Wx → Mat c X → mOB G o c l = true → PTs X l (tT X Wx (evOB G (callN G n) o))
  | .none, c, X, Wx, a, x, M, h => by
    unfold mOB at h
    split at h
    · exact pts_cast pts0 fun _ _ => rfl
    · cases h
  | .some b, c, X, Wx, a, x, M, h => by
    unfold mOB at h
    split at h
    · exact pts_cast (pts_one (sB b x M h)) fun _ _ => rfl
    · cases h
theorem sB : ∀ (b : B) {c : MC} {X : Cx} {Wx : WX} {a : Expr}, Xok G n X Wx → Mat c X → mB G b c a = true → PT X a (tT X Wx (evB G (callN G n) b))
  | .e p, c, X, Wx, a, x, M, h => by
    unfold mB at h
    obtain ⟨h1, h2⟩ := Bool.and_eq_true_iff.mp h
    exact pt_cast (dt_e (sP p x M h2) (test_ok h1)) fun _ _ => rfl
  | .cmp o p q, c, X, Wx, a, x, M, h => by
    unfold mB at h
    split at h
    · simp only [Bool.and_eq_true, decide_eq_true_eq, Bool.not_eq_true'] at h
      obtain ⟨h1, h2, h3, h4⟩ := h
      subst h1
      exact pt_cast (dt_cmp x.units (sP p x M h2) (sP q x M h3) h4) fun _ _ => rfl
    · cases h
  | .chn o o2 p q r, c, X, Wx, a, x, M, h => by
    unfold mB at h
    split at h
    · simp only [Bool.and_eq_true, decide_eq_true_eq, Bool.not_eq_true'] at h
      obtain ⟨h1, h2, h3, h4, h5, h6⟩ := h
      subst h1 h2
      exact pt_cast (dt_chn x.units (sE p x M h3) (sE q x M h4) (sE r x M h5) h6) fun _ _ => rfl
    · cases h
  | .not p, c, X, Wx, a, x, M, h => by
    unfold mB at h
    split at h
    · exact pt_cast (dt_not (sB p x M h)) fun _ _ => rfl
    · cases h
  | .and bs, c, X, Wx, a, x, M, h => by
    unfold mB at h
    split at h
    · exact pt_cast (sBand bs x M h).pt fun _ _ => rfl
    · cases h
  | .or bs, c, X, Wx, a, x, M, h => by
    unfold mB at h
    split at h
    · exact pt_cast (sBor bs x M h).pt fun _ _ => rfl
    · cases h
  | .inm neg p o ks, c, X, Wx, a, x, M, h => by
    unfold mB at h
    split at h
    · simp only [Bool.and_eq_true, decide_eq_true_eq, Bool.not_eq_true'] at h
      obtain ⟨h1, h2, h3, h4, h5⟩ := h
      subst h1
      exact pt_cast (dt_inm x (lookup_mets h3) (sE p x M h4) (sE o x M h5) h2) fun _ _ => rfl
    · cases h
theorem sBand : ∀ (bs : Bs) {c : MC} {X : Cx} {Wx : WX} {l : List Expr} {pos : Pos}, Xok G n X Wx → Mat c X → mBs G bs c l = true → PW X (.BoolOp .And l pos) (tT X Wx (evBand G (callN G n) bs))
  | .nil, c, X, Wx, l, pos, x, M, h => by
    unfold mBs at h
    cases h
  | .cons b r, c, X, Wx, l, pos, x, M, h => by
    unfold mBs at h
    split at h
    · exact pw_cast (dw_and1 (sB b x M h)) fun _ _ => rfl
    · obtain ⟨h1, h2⟩ := Bool.and_eq_true_iff.mp h
      exact pw_cast (dw_and (sB b x M h1) (sBand _ x M h2)) fun _ _ => rfl
    · cases h
theorem sBor : ∀ (bs : Bs) {c : MC} {X : Cx} {Wx : WX} {l : List Expr} {pos : Pos}, Xok G n X Wx → Mat c X → mBs G bs c l = true → PW X (.BoolOp .Or l pos) (tT X Wx (evBor G (callN G n) bs))
  | .nil, c, X, Wx, l, pos, x, M, h => by
    unfold mBs at h
    cases h
  | .cons b r, c, X, Wx, l, pos, x, M, h => by
    unfold mBs at h
    split at h
    · exact pw_cast (dw_or1 (sB b x M h)) fun _ _ => rfl
    · obtain ⟨h1, h2⟩ := Bool.and_eq_true_iff.mp h
      exact pw_cast (dw_or (sB b x M h1) (sBor _ x M h2)) fun _ _ => rfl
    · cases h
theorem sI : ∀ (i : I) {c : MC} {X : Cx} {Wx : WX} {tg a : Expr}, Xok G n X Wx → Mat c X → mI G i c tg a = true → PI X tg a (tI X Wx (evI G (callN G n) i))
  | .seq e, c, X, Wx, tg, a, x, M, h => by
    unfold mI at h
    exact pi_cast (di_seq (sE e x M h)) fun _ _ => rfl
  | .rng1 e, c, X, Wx, tg, a, x, M, h => by
    unfold mI at h
    split at h
    · simp only [Bool.and_eq_true, decide_eq_true_eq] at h
      obtain ⟨h1, h2, h3, h4⟩ := h
      subst h1
      exact pi_cast (di_rng1 x.fx (gl_ok M h2) (sE e x M h4) h3) fun _ _ => rfl
    · cases h
  | .rng2 e f, c, X, Wx, tg, a, x, M, h => by
    unfold mI at h
    split at h
    · simp only [Bool.and_eq_true, decide_eq_true_eq] at h
      obtain ⟨h1, h2, h3, h4, h5, h6⟩ := h
      subst h1
      exact pi_cast (di_rng2 x.fx (gl_ok M h2) (sE e x M h5) (sE f x M h6) h3 h4) fun _ _ => rfl
    · cases h
  | .enum e, c, X, Wx, tg, a, x, M, h => by
    unfold mI at h
    split at h
    · simp only [Bool.and_eq_true, decide_eq_true_eq] at h
      obtain ⟨h1, h2, h3, h4⟩ := h
      subst h1
      exact pi_cast (di_enum x.fx (gl_ok M h2) (sE e x M h4) h3) fun _ _ => rfl
    · cases h
  | .zip e f, c, X, Wx, tg, a, x, M, h => by
    unfold mI at h
    split at h
    · simp only [Bool.and_eq_true, decide_eq_true_eq] at h
      obtain ⟨h1, h2, h3, h4, h5, h6⟩ := h
      subst h1
      exact pi_cast (di_zip x.fx (gl_ok M h2) (sE e x M h5) (sE f x M h6) h3 h4) fun _ _ => rfl
    · cases h
  | .rev e, c, X, Wx, tg, a, x, M, h => by
    unfold mI at h
    split at h
    · simp only [Bool.and_eq_true, decide_eq_true_eq] at h
      obtain ⟨h1, h2, h3, h4⟩ := h
      subst h1
      exact pi_cast (di_rev x.fx (gl_ok M h2) (sE e x M h4) h3) fun _ _ => rfl
    · cases h
  | .revr e, c, X, Wx, tg, a, x, M, h => by
    unfold mI at h
    split at h
    · simp only [Bool.and_eq_true, decide_eq_true_eq] at h
      obtain ⟨h1, h2, h3, h4, h5, h6⟩ := h
      subst h1 h2
      exact pi_cast (di_revr x.fx (gl_ok M h3) (gl_ok M h4) (sE e x M h6) h5) fun _ _ => rfl
    · cases h
end
end
end Dp
end

section
set_option Elab.async false
set_option linter.all false
set_option maxRecDepth 100000
set_option maxHeartbeats 4000000
/-! The deep layer, part 19: what is matched, holds (statements, defs). -/
namespace Dp
open PySem PySem.Spec PyProof.Rows L2
/-- is the old value let go within the comprehension? -/
def swB (c : MC) (x : Str) (py : Pos) : Expr → Bool
  | .ListComp _ _ scope pos => (match c.sc.names.lookup x with | some .local => true | _ => false) && (py.line == pos.line && !(scope.names.any fun (n, k) => n == x && (k == .local || k == .cell)))
  | .DictComp _ _ _ scope pos => (match c.sc.names.lookup x with | some .local => true | _ => false) && (py.line == pos.line && !(scope.names.any fun (n, k) => n == x && (k == .local || k == .cell)))
  | _ => false
def noSD : Expr → Bool
  | .SetComp .. => false
  | _ => true
def nLcd : E → Bool
  | .lcd .. => false
  | .lco .. => false
  | _ => true
def noLC : Expr → Bool
  | .ListComp .. => false
  | .SetComp .. => false
  | .DictComp .. => false
  | _ => true
def noTup : Expr → Bool
  | .Tuple .. => false
  | _ => true
section
variable (G : Prog)
/-- an except clause -/
def mIts (h : Hc) (c : MC) : List HI → List Expr → Bool
  | [], [] => true
  | .str y :: l, .Constant (.str z) _ _ :: r => decide (y = z) && mIts h c l r
  | .int n :: l, .Constant (.int z) _ _ :: r => decide (n = z) && mIts h c l r
  | .fld f :: l, .Attribute (.Name y _) g _ :: r => decide (f = g) && (decide ((h.cls, f) ∈ G.exs) && ((match h.nm with | some i => nmB c y i | none => false) && mIts h c l r))
  | _, _ => false
def mSu (h : Hc) (c : MC) (st : Stmt) : Bool := match h.su, st with
  | .retL l, .Return (some (.List es _)) _ => mIts G h c l es
  | .retB b, .Return (some (.Constant (.bool k) _ _)) _ => decide (b = k)
  | .asgL t l, .Assign [.Name y _] (.List es _) _ => decide (c.N[t]? = some y) && (locB c y && mIts G h c l es)
  | _, _ => false
def nmH (h : Hc) (c : MC) (n : Option Str) : Bool := match h.nm, n with
  | none, none => true
  | some i, some y => decide (c.N[i]? = some y) && (match c.sc.names.lookup y with | some .local => true | _ => false)
  | _, _ => false
def mHs : List Hc → MC → List ExceptHandler → Bool
  | [], _, [] => true
  | h :: hs, c, .ExceptHandler (some (.Name x _)) n [st] _ :: r => decide (x = h.cls) && (glB c.sc x && (!(x == ("__debug__" : Str)) && ((G.exm.any fun p => decide (p.1.2 = h.cls)) && (nmH h c n && (mSu G h c st && mHs hs c r)))))
  | _, _, _ => false
/-- a name stored -/
def mN (c : MC) (i : Nat) : Expr → Bool
  | .Name x _ => decide (c.N[i]? = some x) && locB c x
  | _ => false
mutual
def mS : S → MC → Stmt → Bool
  | .ex e, c, st => (match st with | .Expr a _ => noLC a && mE G e c a | _ => false)
  | .rse cn e, c, st => (match st with | .Raise (some (.Call (.Name x _) [a] [] _)) none _ => decide (x = cn) && (glB c.sc cn && (!(cn == ("__debug__" : Str)) && (noStar a && (mE G e c a && (G.exs.lookup cn).isSome)))) | _ => false)
  | .try_ b hs, c, st => (match st with | .Try body (hd :: hds) [] [] _ => mSs b c body && (hs.all flB && mHs G hs c (hd :: hds)) | _ => false)
  | .mov i j, c, st => (match st with | .Assign [.Name x _] (.Name y _) _ => decide (c.N[i]? = some x) && (locB c x && nmB c y j) | _ => false)
  | .asg t e, c, st => (match st with | .Assign [tg] a _ => mT c t tg && ((noSD a && nLcd e) && ((match tg with | .Name .. => true | _ => noLC a && noTup a) && mE G e c a)) | _ => false)
  | .asgO i e, c, st => (match st with | .Assign [tg] a _ => mN c i tg && ((noSD a && nLcd e) && mE G e c a) | _ => false)
  | .asgM i e, c, st => (match st with | .Assign [tg] a _ => mN c i tg && ((noSD a && nLcd e) && mE G e c a) | _ => false)
  | .aug i o e, c, st => (match st with | .AugAssign tg op a _ => mN c i tg && (decide (op = boOp o) && (decide (o = .add ∨ o = .sub) && mE G e c a)) | _ => false)
  | .om i f es, c, st => (match st with | .Expr (.Call (.Attribute (.Name x _) mn apos) args [] pos) _ => nmB c x i && (decide (mn = Str.ofString (omName f)) && (apos.endLine == pos.line && (decide (args.length < 30) && mEs G es c args))) | _ => false)
  | .omr t i f es, c, st => (match st with | .Assign [tg] (.Call (.Attribute (.Name x _) mn apos) args [] pos) _ => mN c t tg && (nmB c x i && (decide (mn = Str.ofString (omName f)) && (apos.endLine == pos.line && (decide (args.length < 30) && mEs G es c args)))) | _ => false)
  | .seti i b e, c, st => (match st with | .Assign [.Subscript (.Name x _) l _] a _ => nmB c x i && (noSlc l && (mE G b c l && mE G e c a)) | _ => false)
  | .setf i f e, c, st => (match st with | .Assign [.Attribute (.Name x _) f' _] a _ => nmB c x i && (decide (f = f') && mE G e c a) | _ => false)
  | .augs i o b e, c, st => (match st with | .AugAssign (.Subscript (.Name x _) l _) op a _ => nmB c x i && (noSlc l && (decide (op = boOp o) && (decide (o = .add ∨ o = .sub) && (mE G b c l && mE G e c a)))) | _ => false)
  | .ret e, c, st => (match st with | .Return (some a) _ => mE G e c a | _ => false)
  | .retS i, c, st => (match st with | .Return (some (.Name x _)) _ => nmB c x i | _ => false)
  | .retN, _, st => (match st with | .Return none _ => true | _ => false)
  | .ife t a b, c, st => (match st with | .If q x y _ => mB G t c q && (mSs a c x && mSs b c y) | _ => false)
  | .for_ t it body _, c, st => (match st with | .For tg iter b [] _ => noSet iter && (mT c t tg && (mI G it c tg iter && mSs body c b)) | _ => false)
  | .whl _ t body _, c, st => (match st with | .While q b [] _ => mB G t c q && mSs body c b | _ => false)
  | .pass, _, st => (match st with | .Pass _ => true | _ => false)
  | .brk, _, st => (match st with | .Break _ => true | _ => false)
  | .cont, _, st => (match st with | .Continue _ => true | _ => false)
  | .never, _, _ => true
  | .gfz _, _, _ => false
  | .gfg _, _, _ => false
def mSs : Ss → MC → List Stmt → Bool
  | .nil, _, l => (match l with | [] => true | _ => false)
  | .cons s r, c, l => (match s with
    | .gfz _ => mSs r c l
    | .gfg _ => mSs r c l
    | _ => (match l with
      | st :: rest => mS s c st && mSs r c rest
      | [] => false))
end
end
section
variable {X : Cx} {Wx : WX} {W0 : Wd} {H0 : Hp}
theorem ps_cast {a : Stmt} {f g : Sl → Mu → SR} (h : PS X a (tD X Wx W0 H0 f)) (k : ∀ s m, g s m = f s m) : PS X a (tD X Wx W0 H0 g) := by
  rw [show g = f from funext fun s => funext fun m => k s m]
  exact h
theorem pss_cast {a : List Stmt} {f g : Sl → Mu → SR} (h : PSs X a (tD X Wx W0 H0 f)) (k : ∀ s m, g s m = f s m) : PSs X a (tD X Wx W0 H0 g) := by
  rw [show g = f from funext fun s => funext fun m => k s m]
  exact h
theorem sw_eq {c : MC} {x : Str} {py : Pos} {a : Expr} {l : Nat} (M : Mat c X) (hk : X.env.scope.kind = .function) (hn : noSD a = true) : swapsWith a (some (.Name x py)) l X.env = pure (swB c x py a) := by
  have hb : X.env.blockKind = .function := by unfold Env.blockKind; rw [hk]; rfl
  cases a <;> try rfl
  · rename_i elt gs scope pos
    unfold swapsWith swB
    have e : X.env.kindOf x = c.sc.names.lookup x := by
      show X.env.scope.names.lookup x = _
      rw [M.sc]
    simp only [hb, e, Expr.pos]
    cases h : c.sc.names.lookup x with
    | none => rfl
    | some k => cases k <;> rfl
  · cases hn
  · rename_i ke ve gs scope pos
    unfold swapsWith swB
    have e : X.env.kindOf x = c.sc.names.lookup x := by
      show X.env.scope.names.lookup x = _
      rw [M.sc]
    simp only [hb, e, Expr.pos]
    cases h : c.sc.names.lookup x with
    | none => rfl
    | some k => cases k <;> rfl
end
/-- what a body has besides -/
structure XokS (G : Prog) (n : Nat) (X : Cx) (Wx : WX) : Prop extends Xok G n X Wx where
  po : PassesOwn (model X.prog X.w) X.A X.env X.xe
  kind : X.env.scope.kind = .function
  xx : Xx G X.prog X.K X.mg
  stk : X.stack = X.env :: X.outer
  fr : X.env.frame = some X.env.locals
section
variable {G : Prog} {n : Nat} {X : Cx} {Wx : WX} {W0 : Wd} {H0 : Hp} {c : MC}
theorem mN_ok {i : Nat} {a : Expr} (M : Mat c X) (h : mN c i a = true) : ∃ x p, a = .Name x p ∧ X.N[i]? = some x ∧ L2.Loc X.env.scope x ∧ (X.fn x = true ∨ X.env.scope.names.lookup x = some .local) := by
  cases a <;> try (cases h; done)
  rename_i x p
  obtain ⟨h3, h4⟩ := Bool.and_eq_true_iff.mp (show (decide (c.N[i]? = some x) && locB c x) = true from h)
  obtain ⟨l1, l2⟩ := loc_ok M h4
  exact ⟨x, p, rfl, by rw [M.N]; exact of_decide_eq_true h3, l1, l2⟩
/-- name = value -/
theorem asg_name (xs : XokS G n X Wx) (M : Mat c X) {i : Nat} {tg a : Expr} {e : E} {pos : Pos} (ht : mN c i tg = true) (hn0 : noSD a = true ∧ nLcd e = true) (he : mE G e c a = true) : PS X (.Assign [tg] a pos) (tAsg (tS X Wx (evE G (callN G n) e)) (gName i)) := by
  obtain ⟨hn, hnl⟩ := hn0
  obtain ⟨x, p, rfl, h1, h2, h3⟩ := mN_ok M ht
  cases hsw : swB c x p a with
  | false => exact ps_set xs.nd h1 h2 (sE e xs.toXok M he) (by rw [sw_eq M xs.kind hn, hsw]) h3
  | true =>
    cases a <;> try (cases hsw; done)
    · rename_i elt gs scope pos2
      have hl : X.env.scope.names.lookup x = some .local := by
        rw [M.sc]
        have q := (Bool.and_eq_true_iff.mp hsw).1
        revert q
        split
        · intro _; assumption
        · intro z; cases z
      cases e <;> try (first | (cases hnl; done) | (unfold mE at he; cases he; done))
      rename_i t own it cd e
      unfold mE at he
      split at he
      · rename_i heq
        cases heq
        simp only [Bool.and_eq_true, decide_eq_true_eq] at he
        obtain ⟨g0, g1, g2, g3, g4, g5, g6, g7⟩ := he
        subst g0
        rw [← M.N, ← M.sc] at g2
        refine ps_imp (ps_setLc (wi := tI X Wx (evI G (callN G n) it)) (g := tGT X.K t) (tt := tT X Wx0 (evOB G (callN G n) cd)) (te := tS X Wx0 (evE G (callN G n) e)) xs.calm xs.nd h1 hl (by rw [sw_eq M xs.kind rfl, hsw]) (sI it xs.toXok M g5) (blkOk_by g2)
          (fun s H C cl fp => sT (M.blk s H _ C cl fp) xs.nd xs.calm g4) (fun s H C cl fp => sOB cd (xs.toXok.blk s H _ _ fp) (M.blk s H _ C cl fp) g6) (fun s H C cl fp => sE e (xs.toXok.blk s H _ _ fp) (M.blk s H _ C cl fp) g7) (set_ok g1)) fun D σ H ⟨W, s, m, hs, o⟩ => ?_
        have o : OutG X.K X.mg (SvAt X.K X.mg) Wx W H σ ((evI G (callN G n) it s m).bind fun ds m1 => (lcL (lcF t (own.map (·.2)) (evOB G (callN G n) cd) (evE G (callN G n) e) s) ds [] m1).bind fun r m5 => .ok (.own (.lst r)) m5) (fun v H1 => gName i v σ H1 D.nx) := o
        refine run rb_sv hs o fun ds m1 W1 J H1 _ h1 p1 itk o1 D2 hD => ?_
        exact lc_turns h1 itk.s (fun i hi => of_decide_eq_true (List.all_eq_true.mp g3 i hi)) o1 D2 hD
      · cases he
    · rename_i ke ve gs scope pos2
      have hl : X.env.scope.names.lookup x = some .local := by
        rw [M.sc]
        have q := (Bool.and_eq_true_iff.mp hsw).1
        revert q
        split
        · intro _; assumption
        · intro z; cases z
      cases e <;> try (first | (cases hnl; done) | (unfold mE at he; cases he; done))
      rename_i tk t own it cd k v
      unfold mE at he
      split at he
      · rename_i heq
        cases heq
        simp only [Bool.and_eq_true, decide_eq_true_eq] at he
        obtain ⟨g0, g1, g2, g3, g4, g5, g6, g7, g8⟩ := he
        subst g0
        rw [← M.N, ← M.sc] at g2
        refine ps_imp (ps_setDcg (o0 := dcO tk) (wj := tI X Wx (evI G (callN G n) it)) (g := tGT X.K t) (tt := tT X Wx0 (evOB G (callN G n) cd)) (tk := tS X Wx0 (evE G (callN G n) k)) (tv := tS X Wx0 (evE G (callN G n) v)) xs.calm xs.nd h1 hl (by rw [sw_eq M xs.kind rfl, hsw]) (sI it xs.toXok M g5) (blkOk_by g2)
          (fun s H C cl fp => sT (M.blk s H _ C cl fp) xs.nd xs.calm g4) (fun s H C cl fp => sOB cd (xs.toXok.blk s H _ _ fp) (M.blk s H _ C cl fp) g6) (fun s H C cl fp => sE k (xs.toXok.blk s H _ _ fp) (M.blk s H _ C cl fp) g7) (fun s H C cl fp => sE v (xs.toXok.blk s H _ _ fp) (M.blk s H _ C cl fp) g8) (set_ok g1) (by have := xs.units; omega) (fun H' hp hb => by
            cases tk
            · exact dk_empty hp hb
            · exact dt_empty hp hb)) fun D σ H ⟨W, s, m, hs, o⟩ => ?_
        have o : OutG X.K X.mg (SvAt X.K X.mg) Wx W H σ ((evI G (callN G n) it s m).bind fun ds m1 => (dcL (dcF t (own.map (·.2)) (evOB G (callN G n) cd) (evE G (callN G n) k) (evE G (callN G n) v) s) ds (dcE tk) m1).bind fun r m5 => .ok (.own r) m5) (fun v H1 => gName i v σ H1 D.nx) := o
        refine run rb_sv hs o fun ds m1 W1 J H1 _ h1 p1 itk o1 D2 hD => ?_
        exact dc_turns h1 itk (fun i hi => of_decide_eq_true (List.all_eq_true.mp g3 i hi)) o1 D2 hD
      · cases he
/-- the clauses of the text -/
theorem its_ok {h : Hc} {X' : Cx} {a : Addr} {oe : Obj} {cls : Value} {d : Option Addr} {pn : List (Addr × Obj)} {i : Nat} (xx : Xx G X.prog X.K X.mg) (M : Mat c X) (hX : X' = X.suite a ((a, oe) :: pn)) (hz : Zc cls d oe) (hf : ∃ vs, oe.data = .fields vs) (hi : ∀ j, h.nm = some j → j = i) :
    ∀ {l : List HI} {es : List Expr}, mIts G h c l es = true → PA X' es (itA a cls d (He.ga X.K h.cls) i l)
  | [], es, m => by
    cases es with
    | nil => exact pa_nil
    | cons e es => cases m
  | .str y :: l, es, m => by
    cases es with
    | nil => cases m
    | cons e es =>
      cases e <;> try (cases m; done)
      rename_i k j p
      cases k <;> try (cases m; done)
      rename_i z
      obtain ⟨h1, h2⟩ := Bool.and_eq_true_iff.mp (show (decide (y = z) && mIts G h c l es) = true from m)
      rw [of_decide_eq_true h1]
      exact pa_cons pe_str (its_ok xx M hX hz hf hi h2) rfl
  | .int y :: l, es, m => by
    cases es with
    | nil => cases m
    | cons e es =>
      cases e <;> try (cases m; done)
      rename_i k j p
      cases k <;> try (cases m; done)
      rename_i z
      obtain ⟨h1, h2⟩ := Bool.and_eq_true_iff.mp (show (decide (y = z) && mIts G h c l es) = true from m)
      rw [of_decide_eq_true h1]
      exact pa_cons pe_int (its_ok xx M hX hz hf hi h2) rfl
  | .fld f :: l, es, m => by
    cases es with
    | nil => cases m
    | cons e es =>
      cases e <;> try (cases m; done)
      rename_i b g p
      cases b <;> try (cases m; done)
      rename_i y p2
      have m' : (decide (f = g) && (decide ((h.cls, f) ∈ G.exs) && ((match h.nm with | some i => nmB c y i | none => false) && mIts G h c l es))) = true := m
      simp only [Bool.and_eq_true, decide_eq_true_eq] at m'
      obtain ⟨rfl, h2, h3, h4⟩ := m'
      obtain ⟨_, _, q3, q4⟩ := xx.ini _ h2
      cases en : h.nm with
      | none => rw [en] at h3; cases h3
      | some j =>
        rw [en] at h3
        obtain rfl := hi j en
        subst hX
        have M2 : Mat c (X.suite a ((a, oe) :: pn)) := ⟨M.N, M.sc, M.fn⟩
        exact pa_cons (pe_xf (X := X) q3 q4 hz hf (nm_ok M2 h3)) (its_ok xx M rfl hz hf hi h4) rfl
theorem su_ok {h : Hc} {st : Stmt} {a : Addr} {oe : Obj} {cls : Value} {d : Option Addr} {pn : List (Addr × Obj)} (xx : Xx G X.prog X.K X.mg) (M : Mat c X) (hN : X.N.Nodup) (hz : Zc cls d oe) (hf : ∃ vs, oe.data = .fields vs) (m : mSu G h c st = true) :
    PSs (X.suite a ((a, oe) :: pn)) [st] (tSu a cls d (He.ga X.K h.cls) (h.nm.getD 0) h.su) := by
  unfold mSu at m
  split at m
  · rename_i l es p1 p2 e1
    rw [e1]
    have pa := its_ok (a := a) (oe := oe) (cls := cls) (d := d) (i := h.nm.getD 0) (pn := pn) xx M rfl hz hf (fun j e => by rw [e]; rfl) m
    exact pss_imp (pss_cons (ps_ret (pe_lst pa)) pss_nil) fun D σ H q => q
  · rename_i b k j p1 p2 e1
    rw [e1, of_decide_eq_true m]
    exact pss_imp (pss_cons (ps_ret pe_bl) pss_nil) fun D σ H q => q
  · rename_i t l y p0 es p1 p2 e1
    rw [e1]
    simp only [Bool.and_eq_true, decide_eq_true_eq] at m
    obtain ⟨m1, m2, m3⟩ := m
    have pa := its_ok (a := a) (oe := oe) (cls := cls) (d := d) (i := h.nm.getD 0) (pn := pn) xx M rfl hz hf (fun j e => by rw [e]; rfl) m3
    have M2 : Mat c (X.suite a ((a, oe) :: pn)) := ⟨M.N, M.sc, M.fn⟩
    obtain ⟨l1, l2⟩ := loc_ok M2 m2
    exact pss_imp (pss_cons (ps_set hN (show X.N[t]? = some y by rw [M.N]; exact m1) l1 (pe_lst pa) rfl l2) pss_nil) fun D σ H q => q
  · cases m
theorem hs_ok (xx : Xx G X.prog X.K X.mg) (M : Mat c X) (hN : X.N.Nodup) : ∀ {hs : List Hc} {l : List ExceptHandler}, mHs G hs c l = true → ClOk X l (hs.map (clzOf X))
  | [], [], _ => .nil
  | [], _ :: _, m => by cases m
  | h :: hs, [], m => by cases m
  | h :: hs, .ExceptHandler t n body p :: r, m => by
    cases t with
    | none => cases m
    | some t =>
      cases t <;> try (cases m; done)
      rename_i x p2
      cases body with
      | nil => cases m
      | cons st rest =>
        cases rest with
        | cons _ _ => cases m
        | nil =>
          have m' : (decide (x = h.cls) && (glB c.sc x && (!(x == ("__debug__" : Str)) && ((G.exm.any fun p => decide (p.1.2 = h.cls)) && (nmH h c n && (mSu G h c st && mHs G hs c r)))))) = true := m
          simp only [Bool.and_eq_true, decide_eq_true_eq, Bool.not_eq_true', List.any_eq_true] at m'
          obtain ⟨rfl, h2, h3, ⟨q, hq, eq⟩, h5, h6, h7⟩ := m'
          have mg1 := (xx.mat q hq).2
          rw [eq] at mg1
          refine .cons (k := clzOf X h) ?_ ⟨gl_ok M h2, h3, .inl mg1⟩ (fun p hp => ?_) (fun a oe cls d pn hz hf => su_ok xx M hN hz hf h6) (hs_ok xx M hN h7)
          · show n = Option.map (·.2) (h.nm.map fun i => (i, (X.N[i]?).getD ("" : Str)))
            unfold nmH at h5
            split at h5
            · rename_i e1; rw [e1]; rfl
            · rename_i i y e1
              rw [Bool.and_eq_true, decide_eq_true_eq] at h5
              rw [e1, M.N]
              show some y = some ((c.N[i]?).getD ("" : Str))
              rw [h5.1]
              rfl
            · cases h5
          · have hp' : (h.nm.map fun i => (i, (X.N[i]?).getD ("" : Str))) = some p := hp
            unfold nmH at h5
            split at h5
            · rename_i e1; rw [e1] at hp'; cases hp'
            · rename_i i y e1
              rw [Bool.and_eq_true, decide_eq_true_eq] at h5
              rw [e1] at hp'
              cases hp'
              have e2 : (X.N[i]?) = some y := by rw [M.N]; exact h5.1
              have e3 : (X.N[i]?).getD ("" : Str) = y := by rw [e2]; rfl
              refine ⟨by show X.N[i]? = some ((X.N[i]?).getD ("" : Str)); rw [e3]; exact e2, ?_⟩
              show X.env.scope.names.lookup ((X.N[i]?).getD ("" : Str)) = some .local
              rw [e3, M.sc]
              have h6' := h5.2
              split at h6'
              · assumption
              · cases h6'
            · cases h5
theorem omn_nil {es : Es} {l : List Expr} (h : mEs G es c l = true) : l = [] → ∀ s m, evEs G (callN G n) es s m = .ok [] m := by
  intro e
  subst e
  cases es with
  | nil => exact fun _ _ => rfl
  | cons _ _ => unfold mEs at h; cases h
theorem noLC_sw {a : Expr} {t : Option Expr} {l : Nat} {env : Env} (h : noLC a = true) : swapsWith a t l env = pure false := by
  cases a <;> first | rfl | cases h
theorem noTup_sw {tg a : Expr} {env : Env} (h : noTup a = true) : swappedStores [tg] a env = pure none := by
  cases a <;> first | (cases tg <;> rfl) | cases h
mutual
theorem sS : ∀ (s : S) {X : Cx} {Wx : WX} {W0 : Wd} {H0 : Hp} {c : MC} {st : Stmt}, XokS G n X Wx → Mat c X → mS G s c st = true → PS X st (tD X Wx W0 H0 (evS G (callN G n) s))
  | .ex e, X, Wx, W0, H0, c, st, x, M, h => by
    unfold mS at h
    split at h
    · obtain ⟨h1, h2⟩ := Bool.and_eq_true_iff.mp h
      exact ps_cast (d_ex (sE e x.toXok M h2) (noLC_sw h1)) fun _ _ => rfl
    · cases h
  | .rse cn e, X, Wx, W0, H0, c, st, x, M, h => by
    unfold mS at h
    split at h
    · rename_i y p a pos pos'
      simp only [Bool.and_eq_true, decide_eq_true_eq, Bool.not_eq_true'] at h
      obtain ⟨rfl, h2, h3, h4, h5, h6⟩ := h
      cases el : G.exs.lookup y with
      | none => rw [el] at h6; cases h6
      | some f =>
        obtain ⟨q1, q2, _, _⟩ := x.xx.ini _ (mem_of_lookup el)
        exact ps_cast (d_rse (k := 2 * n) q1 x.room (gl_ok M h2) q2 x.calm x.tk (sE e x.toXok M h5) h3 (by cases a <;> first | rfl | cases h4)) fun s m => by show (evE G (callN G n) e s m).st s _ = _; rw [el]
    · cases h
  | .try_ b hs, X, Wx, W0, H0, c, st, x, M, h => by
    unfold mS at h
    split at h
    · rename_i body hd hds pos
      simp only [Bool.and_eq_true] at h
      obtain ⟨h1, h2, h3⟩ := h
      refine ps_imp (try_clz x.stk x.fr x.nd x.tk (tb := fun W => tSt X.K X.mg W W0 H0 (evSs G (callN G n) b)) (fun W pn xe tk po => sSs b (X := X.tr pn xe) (Wx := W) ⟨⟨x.calm, x.nd, x.room, tk, x.fx, x.fns⟩, po, x.kind, x.xx, x.stk, x.fr⟩ ⟨M.N, M.sc, M.fn⟩ h1) (hs_ok x.xx M x.nd h3)) fun D σ H ⟨Wl, W, s, m, hh, o⟩ => ⟨Wl, W, s, m, hh, ?_⟩
      have o' : OutS X.K X.mg Wx W0 H0 Wl (match evSs G (callN G n) b s m with
        | .ex x s1 m1 => hdS G x hs s1 m1
        | .nx s1 m1 => .nx s1 m1
        | .rt v m1 => .rt v m1
        | .bk s1 m1 => .bk s1 m1
        | .ct s1 m1 => .ct s1 m1
        | .bad => .bad) D := o
      revert o'
      cases evSs G (callN G n) b s m with
      | nx s1 m1 => exact id
      | rt v m1 => exact id
      | bk s1 m1 => exact id
      | ct s1 m1 => exact id
      | bad => exact id
      | ex xn s1 m1 => exact fun o W' σ' d H' hH ea => hds_ok x.xx h2 o hH ea
    · cases h
  | .mov i j, X, Wx, W0, H0, c, st, x, M, h => by
    unfold mS at h
    split at h
    · simp only [Bool.and_eq_true, decide_eq_true_eq] at h
      obtain ⟨h1, h2, h3⟩ := h
      obtain ⟨l1, l2⟩ := loc_ok M h2
      exact ps_cast (d_mov x.nd (by rw [M.N]; exact h1) l1 l2 (nm_ok M h3)) fun _ _ => rfl
    · cases h
  | .asg t e, X, Wx, W0, H0, c, st, x, M, h => by
    unfold mS at h
    split at h
    · rename_i tg a _
      simp only [Bool.and_eq_true] at h
      obtain ⟨h1, h2, h3, h4⟩ := h
      cases t with
      | nm i => exact ps_cast (d_asg (t := .nm i) (asg_name x M (by cases tg <;> first | exact h1 | (cases h1; done)) h2 h4)) fun _ _ => rfl
      | tp l =>
        have h5 : noLC a = true ∧ noTup a = true := by
          cases tg <;> first | (cases h1; done) | (obtain ⟨q1, q2⟩ := Bool.and_eq_true_iff.mp h3; exact ⟨q1, q2⟩)
        refine ps_cast (d_asg (t := .tp l) (ps_asg (sE e x.toXok M h4) (sT M x.nd x.calm h1) (noLC_sw h5.1) (noTup_sw h5.2) ?_)) fun _ _ => rfl
        cases tg <;> first | (cases h1; done) | rfl
      | tl l =>
        have h5 : noLC a = true ∧ noTup a = true := by
          cases tg <;> first | (cases h1; done) | (obtain ⟨q1, q2⟩ := Bool.and_eq_true_iff.mp h3; exact ⟨q1, q2⟩)
        refine ps_cast (d_asg (t := .tl l) (ps_asg (sE e x.toXok M h4) (sT M x.nd x.calm h1) (noLC_sw h5.1) (noTup_sw h5.2) ?_)) fun _ _ => rfl
        cases tg <;> first | (cases h1; done) | rfl
    · cases h
  | .asgO i e, X, Wx, W0, H0, c, st, x, M, h => by
    unfold mS at h
    split at h
    · simp only [Bool.and_eq_true] at h
      obtain ⟨h1, h2, h3⟩ := h
      exact ps_cast (d_asgO (asg_name x M h1 h2 h3)) fun _ _ => rfl
    · cases h
  | .asgM i e, X, Wx, W0, H0, c, st, x, M, h => by
    unfold mS at h
    split at h
    · simp only [Bool.and_eq_true] at h
      obtain ⟨h1, h2, h3⟩ := h
      exact ps_cast (d_asgM (asg_name x M h1 h2 h3)) fun _ _ => rfl
    · cases h
  | .aug i o e, X, Wx, W0, H0, c, st, x, M, h => by
    unfold mS at h
    split at h
    · simp only [Bool.and_eq_true, decide_eq_true_eq] at h
      obtain ⟨h1, h2, h3, h4⟩ := h
      subst h2
      obtain ⟨y, p, rfl, q1, q2, q3⟩ := mN_ok M h1
      exact ps_cast (d_aug x.nd q1 q2 q3 (sE e x.toXok M h4) h3) fun _ _ => rfl
    · cases h
  | .om i f es, X, Wx, W0, H0, c, st, x, M, h => by
    unfold mS at h
    split at h
    · simp only [Bool.and_eq_true, decide_eq_true_eq] at h
      obtain ⟨h1, h2, h3, h4, h5⟩ := h
      subst h2
      exact ps_cast (d_om (nm_ok M h1) h3 h4 (mEs_star h5) (sEs es x.toXok M h5) (omn_nil h5)) fun _ _ => rfl
    · cases h
  | .omr t i f es, X, Wx, W0, H0, c, st, x, M, h => by
    unfold mS at h
    split at h
    · simp only [Bool.and_eq_true, decide_eq_true_eq] at h
      obtain ⟨h0, h1, h2, h3, h4, h5⟩ := h
      subst h2
      obtain ⟨y, p, rfl, q1, q2, q3⟩ := mN_ok M h0
      exact ps_cast (d_omr x.nd q1 q2 q3 (nm_ok M h1) h3 h4 (mEs_star h5) (sEs es x.toXok M h5) (omn_nil h5)) fun _ _ => rfl
    · cases h
  | .seti i b e, X, Wx, W0, H0, c, st, x, M, h => by
    unfold mS at h
    split at h
    · simp only [Bool.and_eq_true] at h
      obtain ⟨h1, h2, h3, h4⟩ := h
      exact ps_cast (d_seti x.units (nm_ok M h1) (sE b x.toXok M h3) h2 (sE e x.toXok M h4)) fun _ _ => rfl
    · cases h
  | .setf i f e, X, Wx, W0, H0, c, st, x, M, h => by
    unfold mS at h
    split at h
    · simp only [Bool.and_eq_true, decide_eq_true_eq] at h
      obtain ⟨h1, h2, h3⟩ := h
      subst h2
      exact ps_cast (d_setf x.toXok (nm_ok M h1) (sE e x.toXok M h3)) fun _ _ => rfl
    · cases h
  | .augs i o b e, X, Wx, W0, H0, c, st, x, M, h => by
    unfold mS at h
    split at h
    · simp only [Bool.and_eq_true, decide_eq_true_eq] at h
      obtain ⟨h1, h2, h3, h4, h5, h6⟩ := h
      subst h3
      exact ps_cast (d_augs x.units (nm_ok M h1) (sE b x.toXok M h5) h2 (sE e x.toXok M h6) h4) fun _ _ => rfl
    · cases h
  | .ret e, X, Wx, W0, H0, c, st, x, M, h => by
    unfold mS at h
    split at h
    · exact ps_cast (d_ret (sE e x.toXok M h)) fun _ _ => rfl
    · cases h
  | .retS i, X, Wx, W0, H0, c, st, x, M, h => by
    unfold mS at h
    split at h
    · exact ps_cast (d_retS (nm_ok M h)) fun _ _ => rfl
    · cases h
  | .retN, X, Wx, W0, H0, c, st, x, M, h => by
    unfold mS at h
    split at h
    · exact ps_cast d_retN fun _ _ => rfl
    · cases h
  | .ife t a b, X, Wx, W0, H0, c, st, x, M, h => by
    unfold mS at h
    split at h
    · simp only [Bool.and_eq_true] at h
      obtain ⟨h1, h2, h3⟩ := h
      exact ps_cast (d_ife (sB t x.toXok M h1) (sSs a x M h2) (sSs b x M h3)) fun _ _ => rfl
    · cases h
  | .for_ t it body fg, X, Wx, W0, H0, c, st, x, M, h => by
    unfold mS at h
    split at h
    · simp only [Bool.and_eq_true] at h
      obtain ⟨h1, h2, h3, h4⟩ := h
      exact ps_cast (d_for x.po x.calm (sI it x.toXok M h3) (sT M x.nd x.calm h2) (sSs body x M h4) (set_ok h1)) fun _ _ => rfl
    · cases h
  | .whl k t body fg, X, Wx, W0, H0, c, st, x, M, h => by
    unfold mS at h
    split at h
    · obtain ⟨h1, h2⟩ := Bool.and_eq_true_iff.mp h
      exact ps_cast (d_whl x.po (sB t x.toXok M h1) (sSs body x M h2)) fun _ _ => rfl
    · cases h
  | .pass, X, Wx, W0, H0, c, st, x, M, h => by
    unfold mS at h
    split at h
    · exact ps_cast d_pass fun _ _ => rfl
    · cases h
  | .brk, X, Wx, W0, H0, c, st, x, M, h => by
    unfold mS at h
    split at h
    · exact ps_cast d_brk fun _ _ => rfl
    · cases h
  | .cont, X, Wx, W0, H0, c, st, x, M, h => by
    unfold mS at h
    split at h
    · exact ps_cast d_cont fun _ _ => rfl
    · cases h
  | .never, X, Wx, W0, H0, c, st, x, M, h => ps_cast d_never fun _ _ => rfl
  | .gfz _, X, Wx, W0, H0, c, st, x, M, h => by
    unfold mS at h
    cases h
  | .gfg _, X, Wx, W0, H0, c, st, x, M, h => by
    unfold mS at h
    cases h
theorem sSs : ∀ (ss : Ss) {X : Cx} {Wx : WX} {W0 : Wd} {H0 : Hp} {c : MC} {l : List Stmt}, XokS G n X Wx → Mat c X → mSs G ss c l = true → PSs X l (tD X Wx W0 H0 (evSs G (callN G n) ss))
  | .nil, X, Wx, W0, H0, c, l, x, M, h => by
    unfold mSs at h
    split at h
    · exact pss_cast ds_nil fun _ _ => rfl
    · cases h
  | .cons s r, X, Wx, W0, H0, c, l, x, M, h => by
    unfold mSs at h
    split at h
    · exact pss_cast (ds_gfz (sSs r x M h)) fun _ _ => rfl
    · exact pss_cast (ds_gfg (sSs r x M h)) fun _ _ => rfl
    · split at h
      · obtain ⟨h1, h2⟩ := Bool.and_eq_true_iff.mp h
        exact pss_cast (ds_cons (sS s x M h1) (sSs r x M h2)) fun _ _ => rfl
      · cases h
end
end
end Dp
end

section
set_option Elab.async false
set_option linter.all false
set_option maxRecDepth 100000
set_option maxHeartbeats 4000000
/-! The deep layer, part 20: defs, the whole. -/
namespace Dp
open PySem PySem.Spec PyProof.Rows L2
section
variable {G : Prog} {P : Program} {w : World} {K : PySem.W.Frag} {mg : Str → Option Value} {base : Heap} {n : Nat}
theorem start_hold {W : Wd} {m : Mu} {H : Hp} {f : Fn} {ds : List D} {vs : List V} (hl : ds.length = f.ps.length) (hN : f.ps.length ≤ f.N.length) (st : St0 K mg W m H) (r : Reps K mg W ds vs) : HoldF K mg W H W W (start0 f ds) m (start f.N vs) H := by
  have e1 : ∀ (i : Nat) (x : SV), (start0 f ds)[i]? = some (some x) → ∃ d, x = .val d ∧ ds[i]? = some d := fun i x e => by
    unfold start0 at e
    by_cases hi : i < ds.length
    · rw [List.getElem?_append_left (by simpa using hi), List.getElem?_map] at e
      cases q : ds[i]? with
      | none => rw [q] at e; cases e
      | some d => rw [q] at e; cases e; exact ⟨d, rfl, rfl⟩
    · rw [List.getElem?_append_right (by simpa using hi), List.getElem?_replicate] at e
      split at e <;> cases e
  refine ⟨⟨st, ?_, fun i d e => ?_, fun i c e => ?_, fun i j c c' a e _ _ _ => ?_⟩, Step.refl W H, fun i c a e _ => ?_, Le.refl W⟩
  · unfold start0 L2.start
    simp [r.length]
  · obtain ⟨d', e2, e3⟩ := e1 i _ e
    cases e2
    obtain ⟨v, ev, rv⟩ := r.get e3
    refine ⟨v, ?_, rv⟩
    unfold L2.start
    have hi := (List.getElem?_eq_some_iff.mp ev).1
    rw [List.getElem?_append_left (by simpa using hi), List.getElem?_map, ev]
    rfl
  · obtain ⟨d', e2, _⟩ := e1 i _ e
    cases e2
  · obtain ⟨d', e2, _⟩ := e1 i _ e
    cases e2
  · obtain ⟨d', e2, _⟩ := e1 i _ e
    cases e2
/-- what the text gives of a def -/
structure FnD (G : Prog) (K : PySem.W.Frag) (mg : Str → Option Value) (f : Fn) : Prop where
  ex : ∃ (name : Str) (params : Arguments) (body : List Stmt) (scope : Scope) (dvs : List V) (kws : List (Str × V)) (fd : FuncData), FunD K name f.qual params body scope dvs kws (fAw K f.at_) fd ∧ FnScope f.N f.ps scope ∧ mSs G f.body ⟨f.N, scope, true⟩ body = true ∧
    ∀ j, j ≤ f.ps.length → f.ps.length ≤ j + f.dfl.length → ∃ (dvs : List V) (ds : List Value), Vals dvs ds ∧ Binds K fd f.ps ds ∧ ∀ W : Wd, Reps K mg W (f.dfl.drop (j + f.dfl.length - f.ps.length)) dvs
theorem pre_len {N ps : List Str} {sc : Scope} (S : FnScope N ps sc) : ps.length ≤ N.length := by
  have := congrArg List.length S.pre
  rw [List.length_take] at this
  omega
theorem out_back {W : Wd} {H : Hp} {E : XK} {Q : VK} {r : SR} (o : OutG K mg (SvAt K mg) (WE0 E) W H [] r.back Q) : OutS K mg (WE0 E) W H W r { nx := fun _ H' => Q .non H', rt := Q } := by
  cases r with
  | nx s m => exact fun W' σ H' h => o W' .non H' h.h.toSt0 h.st rfl
  | rt v m => exact fun W' u H' x p av => o W' u H' x p av
  | bk s m => exact o.elim
  | ct s m => exact o.elim
  | ex x s m => exact fun W' σ d H' h ea => o W' d H' h.h.toSt0 h.st ea
  | bad => exact o.elim
theorem fn_step (fx : Fx G K mg) (xx : Xx G P K mg) (fns : ∀ k f, G.fns[k]? = some f → FnF G P w K mg base n k f) {k : Nat} {f : Fn} (hk : G.fns[k]? = some f) {name : Str} {params : Arguments} {body : List Stmt} {scope : Scope} {dvs : List V} {kws : List (Str × V)} {fd : FuncData}
    (F : FunD K name f.qual params body scope dvs kws (fAw K f.at_) fd) (S : FnScope f.N f.ps scope) (hm : mSs G f.body ⟨f.N, scope, true⟩ body = true) : FnOk P w K mg base (L2.CX P w) (2 * (n + 1)) (fAw K f.at_) fd f.ps (spF G K mg (n + 1) k) := by
  refine F.ok (k := 2 * n + 1) S (fun vs H Q E h => ?_) fun cdv A outer s H vs Q E hr h => ?_
  · obtain ⟨f', W, ds, m, hf, hl, st, r, _⟩ := h
    rw [hk] at hf
    cases hf
    rw [← r.length, hl]
  · obtain ⟨f', W, ds, m, hf, hl, st, r, o⟩ := h
    rw [hk] at hf
    cases hf
    have ef : fill f ds = ds := by
      unfold fill
      rw [show ds.length + f.dfl.length - f.ps.length = f.dfl.length by omega, List.drop_length, List.append_nil]
    unfold callN at o
    rw [hk] at o
    dsimp only at o
    rw [ef, if_pos hl] at o
    refine ⟨_, sSs (n := n) f.body (W0 := W) (H0 := H) (Wx := WE0 E) (c := ⟨f.N, scope, true⟩) ⟨⟨rfl, S.nd, hr, ?_, fx, fns⟩, ?_, S.kind, xx, rfl, rfl⟩ ⟨rfl, rfl, fun _ _ => rfl⟩ hm, ?_⟩
    · exact takes_of rfl rfl rfl rfl
    · exact passes_of rfl
    · exact ⟨W, W, start0 f ds, m, start_hold hl (pre_len S) st r, out_back o⟩
theorem fn_all (fx : Fx G K mg) (xx : Xx G P K mg) (fds : ∀ f ∈ G.fns, FnD G K mg f) : ∀ n k f, G.fns[k]? = some f → FnF G P w K mg base n k f := by
  intro n
  induction n with
  | zero =>
    intro k f hk
    obtain ⟨name, params, body, scope, dvs, kws, fd, F, S, hm, B⟩ := (fds f (List.mem_of_getElem? hk)).ex
    exact ⟨⟨fd, ⟨fun vs H Q E h => (by obtain ⟨f', W, ds, m, hf, hl, st, r, o⟩ := h; exact o.elim), fun A outer s H args us vs Q E _ _ _ _ h => (by obtain ⟨f', W, ds, m, hf, hl, st, r, o⟩ := h; exact o.elim)⟩, B⟩, F.kp⟩
  | succ n ih =>
    intro k f hk
    obtain ⟨name, params, body, scope, dvs, kws, fd, F, S, hm, B⟩ := (fds f (List.mem_of_getElem? hk)).ex
    exact ⟨⟨fd, fn_step fx xx ih hk F S hm, B⟩, F.kp⟩
end
theorem xx_nil {G : Prog} {P : Program} {K : PySem.W.Frag} {mg : Str → Option Value} (h1 : G.exs = []) (h2 : G.exm = []) : Xx G P K mg := ⟨fun p hp => (by rw [h1] at hp; cases hp), fun p hp => (by rw [h2] at hp; cases hp)⟩
/-! ### the law -/
def CXA : CXT := fun outer H s E e s' => ∃ (P : Program) (w : World), L2.CX P w outer H s E e s'
theorem cxa_no : ∀ (H : Hp) (s : Shared) (e : Value) (s' : Shared), CXA [] H s (fun _ _ _ => False) e s' → False := fun H s e s' ⟨P, w, a, B, H', cls, d, _, _, _, _, _, _, _, h⟩ => h
theorem FnOk.cx {P : Program} {w : World} {K : PySem.W.Frag} {mg : Str → Option Value} {base : Heap} {CX CX' : CXT} {k : Nat} {f : Addr} {fd : FuncData} {ps : List Str} {sp : Sp} (F : FnOk P w K mg base CX k f fd ps sp) (h : ∀ o H s E e s', CX o H s E e s' → CX' o H s E e s') : FnOk P w K mg base CX' k f fd ps sp := by
  refine ⟨F.len, fun A outer s H args us vs Q E hr e0 hb r hs => codeAny_mono (F.run A outer s H args us vs Q E hr e0 hb r hs) fun r s' q => ?_⟩
  cases r with
  | error e => exact h _ _ _ _ _ _ q
  | ok fl => cases fl <;> exact q
/-- the law's promise -/
def spLaw (K : PySem.W.Frag) (most : Nat) : Sp := fun vs H Q _ => ∃ (a : Addr) (ns : List Int), vs = [.ref a] ∧ ns.length ≤ most ∧ SqL K H a (ns.map V.int) ∧ ∀ H', Q (.bl true) H'
theorem law_ok {G : Prog} {P : Program} {w : World} {K : PySem.W.Frag} {mg : Str → Option Value} {base : Heap} (fx : Fx G K mg) (xx : Xx G P K mg) (fds : ∀ f ∈ G.fns, FnD G K mg f) {n k most : Nat} {f : Fn} (hk : G.fns[k]? = some f) (hps : f.ps.length = 1)
    (pure : ∀ ns : List Int, ns.length ≤ most → ∃ m, callN G n k [.seq (ns.map .int)] [] = .ok (.val (.bl true)) m) {name : Str} {params : Arguments} {body : List Stmt} {scope : Scope} {dvs : List V} {kws : List (Str × V)} {fd : FuncData} (hn : n ≠ 0)
    (F : FunD K name f.qual params body scope dvs kws (fAw K f.at_) fd) (S : FnScope f.N f.ps scope) (hm : mSs G f.body ⟨f.N, scope, true⟩ body = true) : FnOk P w K mg base CXA (2 * n) (fAw K f.at_) fd f.ps (spLaw K most) := by
  obtain ⟨n, rfl⟩ := Nat.exists_eq_succ_of_ne_zero hn
  refine FnOk.cx (FnOk.imp (fn_step (P := P) (w := w) (base := base) fx xx (fn_all fx xx fds n) hk F S hm) fun vs H Q E h => ?_) fun o H s E e s' h => ⟨P, w, h⟩
  obtain ⟨a, ns, rfl, hl, hs, hq⟩ := h
  obtain ⟨m, hp⟩ := pure ns hl
  refine ⟨f, ⟨H, []⟩, [.seq (ns.map .int)], [], hk, hps.symm ▸ rfl, ⟨Same.refl _, rfl, fun i a c e _ => by simp at e, fun a ha => by simp at ha, by simp⟩, Reps.one ⟨a, _, rfl, hs, reps_ints ns⟩, ?_⟩
  rw [hp]
  exact fun W' b H' _ _ av => by
    cases av
    exact hq H'
end Dp
end

section
set_option Elab.async false
set_option linter.all false
set_option maxRecDepth 100000
set_option maxHeartbeats 4000000
/-! The deep layer, part 21: the head's facts. -/
namespace Dp
open PySem PySem.Spec PyProof.Rows L2
def metB (G : Prog) (K : PySem.W.Frag) (p : (Str × Str) × Nat) : Bool := match G.fns[p.2]? with
  | some f => (He.Fa.cls p.1.1).ok K && (He.eqO (PySem.W.findIn K (.ref (He.ga K p.1.1)) p.1.2) (some (some (.ref (fAw K f.at_)))) && (PySem.W.isFn K (.ref (fAw K f.at_)) && PySem.W.keepIn K (.ref (fAw K f.at_))))
  | none => false
def newB (G : Prog) (K : PySem.W.Frag) (p : Str × Nat) : Bool := match G.fns[p.2]? with
  | some f => (He.Fa.glo p.1).ok K && (PySem.W.makesIn K (He.ga K p.1) && (He.eqO (PySem.W.findIn K (.ref (He.ga K p.1)) "__init__") (some (some (.ref (fAw K f.at_)))) && (PySem.W.isFn K (.ref (fAw K f.at_)) && PySem.W.keepIn K (.ref (He.ga K p.1)))))
  | none => false
def cmB (G : Prog) (K : PySem.W.Frag) (p : (Str × Str) × Nat) : Bool := match G.fns[p.2]? with
  | some f => (He.Fa.glo p.1.1).ok K && (PySem.W.readsIn K (He.ga K p.1.1) (.type "type") && (He.eqO (PySem.W.specialIn K (.ref (He.ga K p.1.1)) "__getattribute__") (some (some (.builtin "type.__getattribute__"))) && (He5.wrapB K (He.ga K p.1.1) "classmethod" "classmethod.__get__" p.1.2 && (PySem.W.fnIn K (He5.wf K (He.ga K p.1.1) "classmethod" p.1.2) && decide (He5.wf K (He.ga K p.1.1) "classmethod" p.1.2 = fAw K f.at_)))))
  | none => false
def propB (G : Prog) (K : PySem.W.Frag) (p : (Str × Str) × Nat) : Bool := match G.fns[p.2]? with
  | some f => (He.Fa.cls p.1.1).ok K && (He.eqO (PySem.W.findIn K (.ref (He.ga K p.1.1)) p.1.2) (some (some (.ref (He.ma K (He.ga K p.1.1) p.1.2)))) && (He.eqO (PySem.W.specialIn K (.ref (He.ma K (He.ga K p.1.1) p.1.2)) "__get__") (some (some (.builtin "property.__get__"))) && (decide (PySem.W.takesIn K (.ref (He.ma K (He.ga K p.1.1) p.1.2)) = some true) && (match PySem.W.recIn K (He.ma K (He.ga K p.1.1) p.1.2) "property" with
    | some (.ref g :: _) => decide (g = fAw K f.at_)
    | _ => false))))
  | none => false
def opB2 (G : Prog) (K : PySem.W.Frag) (p : (Str × BO) × Nat) : Bool := match G.fns[p.2]? with
  | some f => (He.Fa.cls p.1.1).ok K && (PySem.W.selfFirst K (He.ga K p.1.1) && (He.eqO (PySem.W.findIn K (.ref (He.ga K p.1.1)) (PySem.dunder (boOp p.1.2).info.2)) (some (some (.ref (fAw K f.at_)))) && (PySem.W.isFn K (.ref (fAw K f.at_)) && ((match PySem.W.findIn K (.ref (He.ga K p.1.1)) (dunderR (boOp p.1.2).info.2) with
    | some none => true
    | some (some (.ref _)) => true
    | _ => false) && ((PySem.W.findIn K (.type "int") (PySem.dunder (boOp p.1.2).info.2)).isSome && ((PySem.W.findIn K (.type "int") (dunderR (boOp p.1.2).info.2)).isSome && decide (PySem.W.subIn K (.type "int") (.ref (He.ga K p.1.1)) = some false)))))))
  | none => false
def clsB (K : PySem.W.Frag) (c : Str) : Bool := (He.Fa.glo c).ok K && ((He.Fa.cls c).ok K && (He.eqO (PySem.W.findIn K (.ref (He.ga K c)) "__class__") (some (some (.builtin "object.__class__"))) && (decide (PySem.W.specialIn K (.builtin "object.__class__") "__get__" = some (some (.builtin "getset_descriptor.__get__"))) && (decide (PySem.W.takesIn K (.builtin "object.__class__") = some true) && decide (PySem.W.mroIn K (He.ga K c) (.type "object") = some true)))))
def factsB (G : Prog) (K : PySem.W.Frag) : Bool :=
  (bltNames.all fun x => (He.Fa.free (Str.ofString x)).ok K) && ((G.gints.all fun p => (He.Fa.int p.1 p.2).ok K) && ((G.clss.all fun c => clsB K c) && ((G.flds.all fun p => (He.Fa.cls p.1).ok K && p.2.all fun f => (He.Fa.noat p.1 f).ok K) &&
  ((G.subs.all fun p => decide (PySem.W.kitOne K (tyV K p.1.1) (tyV K p.1.2) = some p.2) && (match p.1.1 with | .own c => decide (c ∈ G.clss) | .bt _ => true)) &&
  ((G.fns.all fun f => match f.at_.2 with | none => (He.Fa.glo f.at_.1).ok K | some _ => true) && ((G.mets.all fun p => metB G K p) && ((G.news.all fun p => newB G K p) && ((G.cms.all fun p => cmB G K p) && ((G.props.all fun p => propB G K p) && G.ops.all fun p => opB2 G K p)))))))))
theorem facts_fx {G : Prog} {K : PySem.W.Frag} {h : Heap} {mg : Str → Option Value} (X : K.In h) (N : h.Ns mainGlobals mg) (c : factsB G K = true) : Fx G K mg := by
  unfold factsB at c
  simp only [Bool.and_eq_true, List.all_eq_true] at c
  obtain ⟨c1, c2, c3, c4, c5, c6, c7, c8, c9, c10, c11⟩ := c
  refine ⟨fun x hx => He.free_ok X N (c1 x hx), fun p hp => ?_, fun c hc => ?_, fun p hp => ?_, fun p hp c e => ?_, fun f hf e => ?_, fun p hp => ?_, fun p hp => ?_, fun p hp => ?_, fun p hp => ?_, fun p hp => ?_, fun p hp => of_decide_eq_true (c5 p hp).1⟩
  · obtain ⟨t, e⟩ := He.int_ok X N (c2 p hp)
    exact ⟨_, e, t, rfl⟩
  · have q := c3 c hc
    unfold clsB at q
    simp only [Bool.and_eq_true, decide_eq_true_eq] at q
    obtain ⟨q1, q2, q3, q4, q5, q6⟩ := q
    exact ⟨He.glo_ok X N q1, He.cls_ok q2, He.eqO_ok q3, q4, q5, q6⟩
  · obtain ⟨q1, q2⟩ := c4 p hp
    exact ⟨He.cls_ok q1, fun f hf => He.noat_ok (q2 f hf)⟩
  · have q := (c5 p hp).2
    rw [e] at q
    exact of_decide_eq_true q
  · have q := c6 f hf
    rw [e] at q
    exact He.glo_ok X N q
  · have q := c7 p hp
    unfold metB at q
    cases e : G.fns[p.2]? with
    | none => rw [e] at q; cases q
    | some f =>
      rw [e] at q
      simp only [Bool.and_eq_true] at q
      obtain ⟨q1, q2, q3, q4⟩ := q
      exact ⟨f, rfl, He.cls_ok q1, He.eqO_ok q2, q3, q4⟩
  · have q := c8 p hp
    unfold newB at q
    cases e : G.fns[p.2]? with
    | none => rw [e] at q; cases q
    | some f =>
      rw [e] at q
      simp only [Bool.and_eq_true] at q
      obtain ⟨q1, q2, q3, q4, q5⟩ := q
      exact ⟨f, rfl, ⟨q2, He.eqO_ok q3, q4, q5⟩, He.glo_ok X N q1⟩
  · have q := c9 p hp
    unfold cmB at q
    cases e : G.fns[p.2]? with
    | none => rw [e] at q; cases q
    | some f =>
      rw [e] at q
      simp only [Bool.and_eq_true, decide_eq_true_eq] at q
      obtain ⟨q1, q2, q3, q4, q5, q6⟩ := q
      have cm := He5.cmet_of q4 q5
      rw [q6] at cm
      exact ⟨f, rfl, He.glo_ok X N q1, ⟨q2, He.eqO_ok q3⟩, _, cm⟩
  · have q := c10 p hp
    unfold propB at q
    cases e : G.fns[p.2]? with
    | none => rw [e] at q; cases q
    | some f =>
      rw [e] at q
      simp only [Bool.and_eq_true, decide_eq_true_eq] at q
      obtain ⟨q1, q2, q3, q4, q5⟩ := q
      refine ⟨f, rfl, He.cls_ok q1, _, He.eqO_ok q2, He.eqO_ok q3, q4, ?_⟩
      split at q5
      · rename_i g rest e2
        have := of_decide_eq_true q5
        subst this
        exact ⟨_, e2⟩
      · cases q5
  · have q := c11 p hp
    unfold opB2 at q
    cases e : G.fns[p.2]? with
    | none => rw [e] at q; cases q
    | some f =>
      rw [e] at q
      simp only [Bool.and_eq_true, decide_eq_true_eq, Option.isSome_iff_exists] at q
      obtain ⟨q1, q2, q3, q4, q5, q6, q7, q8⟩ := q
      refine ⟨f, rfl, He.cls_ok q1, q2, He.eqO_ok q3, q4, ?_, q6, q7, q8⟩
      split at q5
      · rename_i e2
        exact ⟨_, e2, .inl rfl⟩
      · rename_i g e2
        exact ⟨_, e2, .inr ⟨g, rfl⟩⟩
      · cases q5
/-! ### the Hook -/
/-- the def's row, wherever it stands -/
def toA (d : He.DefD) : He5.DefA := ⟨fun K => fAw K d.at_, d.name, d.qual, d.params, d.body, d.scope, d.dfl, d.kwd⟩
def obsP (ex : PySem.W.Frag → Bool) (G : Prog) (fn : List He.DefD) (K : PySem.W.Frag) : He.AlD := ((factsB G K && ex K) && fn.all fun d => (toA d).ok K, fn.map fun d => He5.fnA K (fAw K d.at_))
def SaysP (ex : PySem.W.Frag → Bool) (G : Prog) (fn : List He.DefD) (K : PySem.W.Frag) : Prop := obsP ex G fn K = He.valD fn
def obsPG (n : Nat) (ex : PySem.W.Frag → Bool) (G : Prog) (fn : List He.DefD) (g : Addr → Option Obj) : He.AlD := obsP ex G fn (He.frG g (He.asD g n))
def hookP (n : Nat) (ex : PySem.W.Frag → Bool) (G : Prog) (fn : List He.DefD) : PySem.W.Hook where
  α := He.AlD
  obs := fun s => obsPG n ex G fn s.heap.get?
  val := fun _ => He.valD fn
  says := fun _ h => ∃ K : PySem.W.Frag, K.In h ∧ SaysP ex G fn K
  of := fun _ _ e => ⟨_, He.frG_in, e⟩
  keeps := fun _ _ _ ⟨K, hK, c⟩ k => ⟨K, PySem.W.Frag.In.keeps hK k, c⟩
theorem obsPG_eq {n : Nat} {ex : PySem.W.Frag → Bool} {G : Prog} {fn : List He.DefD} {g : Addr → Option Obj} {s : Shared} (h : ∀ a, g a = s.heap.get? a) : obsPG n ex G fn g = (hookP n ex G fn).obs s := by
  have e : g = s.heap.get? := funext h
  rw [e] <;> rfl
theorem SaysP.facts {ex : PySem.W.Frag → Bool} {G : Prog} {fn : List He.DefD} {K : PySem.W.Frag} (c : SaysP ex G fn K) : factsB G K = true ∧ ex K = true :=
  He.ba (He.ba (show ((factsB G K && ex K) && fn.all fun d => (toA d).ok K) = true from congrArg (fun z : He.AlD => z.1) c)).1
theorem SaysP.def_ {ex : PySem.W.Frag → Bool} {G : Prog} {fn : List He.DefD} {K : PySem.W.Frag} (c : SaysP ex G fn K) (i : Nat) {d : He.DefD} (h : fn[i]? = some d) : ∃ fd, FunD K d.name d.qual d.params d.body d.scope (d.dvs K) (d.kws K) (fAw K d.at_) fd := by
  have c2 := (He.ba (show ((factsB G K && ex K) && fn.all fun d => (toA d).ok K) = true from congrArg (fun z : He.AlD => z.1) c)).2
  have e : fn.map (fun d => He5.fnA K (fAw K d.at_)) = fn.map He.DefD.val := congrArg (fun z : He.AlD => z.2) c
  have e2 : (fn.map fun d => He5.fnA K (fAw K d.at_))[i]? = (fn.map He.DefD.val)[i]? := by rw [e]
  rw [List.getElem?_map, List.getElem?_map, h] at e2
  exact He5.DefA.funD (d := toA d) (Option.some.inj e2) (List.all_eq_true.mp c2 d (List.mem_of_getElem? h))
/-- the empty tuple among a def's defaults -/
def tup0B (p : PySem.W.Frag → Addr) (K : PySem.W.Frag) : Bool := match K.lookup (p K) with
  | some ⟨.type c, _, .seq its _, _⟩ => decide (c = "tuple") && decide (its.size = 0)
  | _ => false
theorem tup0_ok {p : PySem.W.Frag → Addr} {K : PySem.W.Frag} {mg : Str → Option Value} (h : tup0B p K = true) (W : Wd) : Rep K mg W (.gl "()") (.ref (p K)) := by
  unfold tup0B at h
  cases q : K.lookup (p K) with
  | none => rw [q] at h; cases h
  | some o =>
    obtain ⟨oc, od, dt, osl⟩ := o
    rw [q] at h
    cases oc with
    | type c =>
      cases dt with
      | seq its n =>
        obtain ⟨h1, h2⟩ := He.ba (show (decide (c = "tuple") && decide (its.size = 0)) = true from h)
        have e : its = #[] := Array.eq_empty_of_size_eq_zero (of_decide_eq_true h2)
        subst e
        exact ⟨_, rfl, .inr ⟨_, #[], n, q, congrArg Value.type (of_decide_eq_true h1), rfl, Nat.zero_le _, .nil⟩, rfl⟩
      | _ => cases h
    | _ => cases dt <;> cases h
/-! ### defs -/
def scopeB (N ps : List Str) (sc : Scope) : Bool := (match sc.kind with | .function => true | _ => false) && (!sc.isCoroutine && (!sc.isGenerator && (decide N.Nodup && (decide (N.take ps.length = ps) && ((ps.all fun x => match sc.names.lookup x with | some .local => true | some .cell => true | _ => false) && sc.names.all fun y => match y.2 with | .free => false | _ => true)))))
theorem scope_ok {N ps : List Str} {sc : Scope} (h : scopeB N ps sc = true) : FnScope N ps sc := by
  unfold scopeB at h
  simp only [Bool.and_eq_true, Bool.not_eq_true', decide_eq_true_eq, List.all_eq_true] at h
  obtain ⟨h1, h2, h3, h4, h5, h6, h7⟩ := h
  refine ⟨?_, h2, h3, h4, h5, fun x hx => ?_, fun y hy e => ?_⟩
  · split at h1
    · assumption
    · cases h1
  · have q := h6 x hx
    split at q
    · exact .inl (by assumption)
    · exact .inr (by assumption)
    · cases q
  · have q := h7 y hy
    rw [e] at q
    cases q
def defB (G : Prog) (f : Fn) (d : He.DefD) : Bool := decide (f.at_ = d.at_) && (decide (f.qual = d.qual) && (scopeB f.N f.ps d.scope && mSs G f.body ⟨f.N, d.scope, true⟩ d.body))
/-- a def whose parameters have no defaults -/
theorem fnd_plain {G : Prog} {K : PySem.W.Frag} {mg : Str → Option Value} {f : Fn} {d : He.DefD} (F : ∃ fd, FunD K d.name d.qual d.params d.body d.scope (d.dvs K) (d.kws K) (fAw K d.at_) fd) (hd : d.dfl = []) (hf : f.dfl = []) (hB : defB G f d = true)
    (hb : ∀ (kV doc pm : Value) (an : Option Addr) (cdv ct : Value) (us : List Value), us.length = f.ps.length → bindArgs (PySem.W.fnOf d.name d.qual d.params d.body d.scope .none kV doc pm an cdv ct) ⟨us, []⟩ = pure (f.ps.zip us)) : FnD G K mg f := by
  obtain ⟨fd, F⟩ := F
  unfold defB at hB
  simp only [Bool.and_eq_true, decide_eq_true_eq] at hB
  obtain ⟨h1, h2, h3, h4⟩ := hB
  have e0 : d.dvs K = [] := by unfold He.DefD.dvs; rw [hd]; rfl
  rw [e0, ← h1, ← h2] at F
  refine ⟨d.name, d.params, d.body, d.scope, [], _, fd, F, scope_ok h3, h4, fun j j1 j2 => ?_⟩
  rw [hf] at j2 ⊢
  rw [← h2] at hb
  exact ⟨[], [], .nil, F.bindsN hb, fun W => by rw [List.drop_nil]; rfl⟩
/-- a def with defaults -/
theorem fnd_dfl {G : Prog} {K : PySem.W.Frag} {mg : Str → Option Value} {f : Fn} {d : He.DefD} (F : ∃ fd, FunD K d.name d.qual d.params d.body d.scope (d.dvs K) (d.kws K) (fAw K d.at_) fd) (hd : d.dfl.length = f.dfl.length) (hn : d.dfl ≠ []) (hB : defB G f d = true)
    (hr : ∀ W : Wd, Reps K mg W f.dfl (d.dvs K))
    (hb : ∀ j, j ≤ f.ps.length → f.ps.length ≤ j + f.dfl.length → ∀ (T : Addr) (kV doc pm : Value) (an : Option Addr) (cdv ct : Value) (us its : List Value), us.length = j → its.length = f.dfl.length →
      ∃ k, bindArgs (PySem.W.fnOf d.name d.qual d.params d.body d.scope (.ref T) kV doc pm an cdv ct) ⟨us, []⟩ = seqItems? (.ref T) >>= k ∧ k (some its.toArray) = pure (f.ps.zip (us ++ its.drop (j + f.dfl.length - f.ps.length)))) : FnD G K mg f := by
  obtain ⟨fd, F⟩ := F
  unfold defB at hB
  simp only [Bool.and_eq_true, decide_eq_true_eq] at hB
  obtain ⟨h1, h2, h3, h4⟩ := hB
  have el : (d.dvs K).length = f.dfl.length := by unfold He.DefD.dvs; rw [List.length_map, hd]
  rw [← h1, ← h2] at F
  rw [← h2] at hb
  refine ⟨d.name, d.params, d.body, d.scope, _, _, fd, F, scope_ok h3, h4, fun j j1 j2 => ?_⟩
  obtain ⟨ds, v, b⟩ := F.binds1 j (j + f.dfl.length - f.ps.length) (by unfold He.DefD.dvs; intro e; exact hn (List.map_eq_nil_iff.mp e)) (by rw [el]; omega) (fun T kV doc pm an cdv ct us its l1 l2 => hb j j1 j2 T kV doc pm an cdv ct us its l1 (by rw [l2, el]))
  exact ⟨_, ds, v, b, fun W => (hr W).drop _⟩
end Dp
end

section
set_option Elab.async false
set_option linter.all false
set_option maxRecDepth 100000
set_option maxHeartbeats 4000000
/-! The deep layer, part 22: the head's facts of the exceptions' classes. -/
namespace Dp
open PySem PySem.Spec PyProof.Rows L2
structure XD where
  cls : Str
  fl : Str
  qual : Str
  y : Str
  st : Stmt
abbrev XW : Type := Option (Str × Str × Arguments × FuncBody × Scope × Addr × List Str × Addr)
def xfA (K : PySem.W.Frag) (c : Str) : Addr := He.ma K (He.ga K c) "__init__"
def xfW (K : PySem.W.Frag) (c : Str) : XW := match K.lookup (xfA K c) with
  | some ⟨_, _, .func fd, _⟩ => some (fd.name, fd.qualname, fd.params, fd.body, fd.scope, fd.globals, fd.closure.map (·.1), fd.builtins)
  | _ => none
def XD.val (d : XD) : XW := some ("__init__", d.qual, defArgs d.st, .stmts (defBody d.st), defScope d.st, mainGlobals, ["__class__"], builtinsNs)
def oexB (K : PySem.W.Frag) (C : Addr) : Bool := (match K.lookup C with
  | some ⟨.type t, _, .cls cd, sl⟩ => (match cd.mro, sl.toList with
    | .ref C' :: bm, [_, _, _, _, some (.builtin n), _] => decide (t = "type") && (decide (C' = C) && (decide (n = "ValueError.__new__") && (!cd.hasDel && (cd.hasDict && PySem.HandSPX.refsVE bm))))
    | _, _ => false)
  | _ => false) && (decide (PySem.W.findIn K (.ref C) "__setattr__" = some (some (.builtin "object.__setattr__"))) && (decide (PySem.W.subIn K (.ref C) (.type "BaseException") = some true) && (decide (PySem.W.typeIn K (.ref C) = some (.type "type")) && PySem.W.keepIn K (.ref C))))
theorem oexB_ok {K : PySem.W.Frag} {C : Addr} (h : oexB K C = true) : OexC K C := by
  unfold oexB at h
  simp only [Bool.and_eq_true, decide_eq_true_eq] at h
  obtain ⟨h1, h2, h3, h4, h5⟩ := h
  refine ⟨?_, h2, h3, h4, h5⟩
  split at h1
  · rename_i t dd cd sl e
    split at h1
    · rename_i C' bm x0 x1 x2 x3 n x5 e1 e2
      simp only [Bool.and_eq_true, decide_eq_true_eq, Bool.not_eq_true'] at h1
      obtain ⟨q1, q2, q3, q4, q5, q6⟩ := h1
      obtain ⟨nm, bs, mro, ns, qn, hd, sn, sub, ab, col, del⟩ := cd
      dsimp only at e1 q4 q5
      subst q1 q2 q3 q4 q5 e1
      obtain ⟨sl⟩ := sl
      dsimp only at e2
      subst e2
      exact ⟨_, _, _, _, _, _, _, _, _, _, _, _, _, _, _, e, q6⟩
    · cases h1
  · cases h1
def codB (file : Str) (K : PySem.W.Frag) (cda : Addr) : Bool := match K.lookup cda with
  | some ⟨_, _, .fields vs, _⟩ => (match (vs[2]? : Option Value) with | some (.str f _) => file == f | _ => false)
  | _ => false
def celB (K : PySem.W.Frag) (cc C : Addr) : Bool := match K.lookup cc with
  | some ⟨_, _, .cell (some (.ref c)), _⟩ => decide (c = C)
  | _ => false
def xinB (file : Str) (K : PySem.W.Frag) (d : XD) : Bool := match K.lookup (xfA K d.cls) with
  | some ⟨_, _, .func fd, _⟩ => (match fd.code, fd.closure, fd.defaults with
    | .ref cda, [p], .none => codB file K cda && (celB K p.2 (He.ga K d.cls) && PySem.W.codeIn K (.ref cda) d.qual)
    | _, _, _ => false)
  | _ => false
def xiB (file : Str) (K : PySem.W.Frag) (d : XD) : Bool :=
  xinB file K d && ((He.Fa.free "super").ok K && ((He.Fa.glo d.cls).ok K && (oexB K (He.ga K d.cls) && (xfB K (He.ga K d.cls) && (decide (PySem.W.findIn K (.ref (He.ga K d.cls)) d.fl = some none) && (decide (PySem.W.typeIn K (.ref (xfA K d.cls)) = some (.type "function")) && (decide (PySem.W.findIn K (.ref (He.ga K d.cls)) "__init__" = some (some (.ref (xfA K d.cls)))) &&
  (decide (PySem.W.mroIn K (He.ga K d.cls) (.ref (He.ga K d.cls)) = some true) && (decide (PySem.W.ks_superIn K (He.ga K d.cls) (He.ga K d.cls) "__init__" = some (some (.builtin "ValueError.__init__"))) && (decide (PySem.W.subIn K (.ref (He.ga K d.cls)) (.type "ValueError") = some true) && (decide (PySem.W.nsIn K cStatics "thirdparty.any" = some none) &&
  PySem.W.excInitIn K (He.ga K d.cls) [.type "ValueError", .type "Exception", .type "BaseException", .type "object"] "ValueError.__new__")))))))))))
def xsB (d : XD) : Bool := (match ((defArgs d.st).posonlyargs ++ (defArgs d.st).args).head? with
    | some ar => decide (ar.arg = ("self" : Str))
    | none => false) && (decide ((defScope d.st).names.lookup ("super" : Str) = some .globalImplicit) && (decide ((defScope d.st).names.lookup ("__class__" : Str) = some .free) && (decide ((defScope d.st).names.lookup ("self" : Str) = some .local) &&
  (decide ((defScope d.st).kind = .function) && (decide ((defScope d.st).names.lookup d.y = some .local) && (!(defScope d.st).isCoroutine && (!(defScope d.st).isGenerator && ((defScope d.st).names.all (fun z => match z.2 with | .cell => false | _ => true) && (decide (d.y ≠ "self") && !(d.y == ("__debug__" : Str)))))))))))
/-- what the text of the __init__ says -/
def XT (d : XD) : Prop := ∃ (tx : Str) (j : Nat) (p0 p1 p2 p3 p4 p5 p6 p7 p8 p9 : Pos),
  defBody d.st = [.Expr (.Call (.Attribute (.Call (.Name "super" p0) [] [] p1) "__init__" p2) [.Constant (.str tx) j p3] [] p4) p5, .Assign [.Attribute (.Name "self" p6) d.fl p7] (.Name d.y p8) p9] ∧
  (∀ (kV doc pm ct : Value) (an : Option Addr) (cda cc : Addr) (us : List Value), us.length = 2 → bindArgs (PySem.W.ksFn "__init__" d.qual (defArgs d.st) (defBody d.st) (defScope d.st) .none kV doc pm an (.ref cda) ct cc) ⟨us, []⟩ = pure ((["self", d.y] : List Str).zip us)) ∧
  ∀ (L fI cda cc : Addr), swapsWith (.Call (.Attribute (.Call (.Name "super" p0) [] [] p1) "__init__" p2) [.Constant (.str tx) j p3] [] p4) none p5.line (PySem.W.ksEnv d.qual (defScope d.st) L fI (.ref cda) cc) = pure false ∧ interactive (PySem.W.ksEnv d.qual (defScope d.st) L fI (.ref cda) cc) = false ∧
      swapsWith (.Name d.y p8) (some (.Attribute (.Name "self" p6) d.fl p7)) p9.line (PySem.W.ksEnv d.qual (defScope d.st) L fI (.ref cda) cc) = pure false ∧
      (∃ pl : Sem Bool, eval (.Call (.Attribute (.Call (.Name "super" p0) [] [] p1) "__init__" p2) [.Constant (.str tx) j p3] [] p4) (PySem.W.ksEnv d.qual (defScope d.st) L fI (.ref cda) cc) = (do
        let ov ← attributeBase (.Call (.Name "super" p0) [] [] p1) "__init__" (PySem.W.ksEnv d.qual (defScope d.st) L fI (.ref cda) cc) (eval (.Call (.Name "super" p0) [] [] p1) (PySem.W.ksEnv d.qual (defScope d.st) L fI (.ref cda) cc))
        standAt p2.atName
        let (fx, first) ← holding [ov] (getMethod ov "__init__" pl)
        callWith p4 fx first (backTo p4 (starEach [.Constant (.str tx) j p3] (PySem.W.ksEnv d.qual (defScope d.st) L fI (.ref cda) cc))) [])) ∧
      backTo p4 (starEach [.Constant (.str tx) j p3] (PySem.W.ksEnv d.qual (defScope d.st) L fI (.ref cda) cc)) = [(false, eval (.Constant (.str tx) j p3) (PySem.W.ksEnv d.qual (defScope d.st) L fI (.ref cda) cc))]
theorem xini {P : Program} {K : PySem.W.Frag} {h : Heap} {mg : Str → Option Value} {d : XD} (X : K.In h) (N : h.Ns mainGlobals mg) (hW : xfW K d.cls = d.val) (hB : xiB P.main.file K d = true) (hS : xsB d = true) (hT : XT d) (top : (P.main.scope.names.lookup ("super" : Str)).isSome = false) :
    XIni P K mg (He.ga K d.cls) d.fl ∧ mg d.cls = some (.ref (He.ga K d.cls)) ∧ XfC K (He.ga K d.cls) ∧ PySem.W.findIn K (.ref (He.ga K d.cls)) d.fl = some none := by
  unfold xiB at hB
  simp only [Bool.and_eq_true, decide_eq_true_eq] at hB
  obtain ⟨b1, b2, b3, b4, b5, b6, b7, b8, b9, b10, b11, b12, b13⟩ := hB
  refine ⟨?_, He.glo_ok X N b3, xfB_ok b5, b6⟩
  unfold xsB at hS
  simp only [Bool.and_eq_true, decide_eq_true_eq, Bool.not_eq_true', List.all_eq_true] at hS
  obtain ⟨s1, s2, s3, s4, s5, s6, s7, s8, s9, s10, s11⟩ := hS
  obtain ⟨tx, j, p0, p1, p2, p3, p4, p5, p6, p7, p8, p9, t1, t2, t3⟩ := hT
  have ox := oexB_ok b4
  unfold xfW at hW
  unfold xinB at b1
  cases q : K.lookup (xfA K d.cls) with
  | none => rw [q] at b1; cases b1
  | some o =>
    obtain ⟨oc, od, dt, osl⟩ := o
    rw [q] at b1 hW
    cases dt with
    | func fd =>
      dsimp only at b1 hW
      split at b1
      · rename_i cda pc e1 e2 e3
        simp only [Bool.and_eq_true] at b1
        obtain ⟨c1, c2, c3⟩ := b1
        obtain ⟨x, cc⟩ := pc
        unfold XD.val at hW
        injection hW with hW
        simp only [Prod.mk.injEq] at hW
        obtain ⟨w1, w2, w3, w4, w5, w6, w7, w8⟩ := hW
        rw [e2] at w7
        obtain rfl : x = "__class__" := by simpa using w7
        obtain ⟨cd, hcd⟩ : ∃ cd, PySem.W.clsIn K (He.ga K d.cls) = some cd := by
          obtain ⟨_, _, _, _, _, _, _, _, _, _, _, _, _, _, _, e, _⟩ := ox.cls
          unfold PySem.W.clsIn
          rw [e]
          exact ⟨_, rfl⟩
        have efd : fd = PySem.W.ksFn "__init__" d.qual (defArgs d.st) (defBody d.st) (defScope d.st) .none fd.kwdefaults fd.doc fd.pyModule fd.annotations (.ref cda) fd.closureTuple cc := by
          obtain ⟨n1, n2, n3, n4, n5, n6, n7, n8, n9, n10, n11, n12, n13, n14, n15⟩ := fd
          dsimp only at w1 w2 w3 w4 w5 w6 w8 e1 e2 e3
          subst w1 w2 w3 w4 w5 w6 w8 e1 e2 e3
          rfl
        rw [efd] at q
        rw [t1] at q t2
        refine ⟨xfA K d.cls, cda, cc, "__init__", d.qual, defArgs d.st, defScope d.st, .none, fd.kwdefaults, fd.doc, fd.pyModule, fd.closureTuple, fd.annotations, tx, d.y, j, p0, p1, p2, p3, p4, p5, p6, p7, p8, p9, ?_, ⟨_, _, _, q⟩, fun us hl => t2 _ _ _ _ _ _ _ us hl, s10, s11, b8, b7, fun L => t3 L (xfA K d.cls) cda cc⟩
        refine { lf := ⟨_, _, _, q⟩, par := ?_, code := ?_, cell := ?_, cls := ⟨cd, hcd⟩, sub := b9, nosup := He.free_ok X N b2, ks := s2, kc := s3, ka := s4, kk := s5, top := top, rec_ := c3, nocell := ?_, loc := s6, co := s7, gen := s8, sup := b10, ve := b11, third := b12, ini := b13, ox := ox, nofl := b6 }
        · cases ea : ((defArgs d.st).posonlyargs ++ (defArgs d.st).args).head? with
          | none => rw [ea] at s1; cases s1
          | some ar =>
            rw [ea] at s1
            exact ⟨ar, rfl, of_decide_eq_true s1⟩
        · unfold codB at c1
          split at c1
          · rename_i ccl cdd vs ccs e
            split at c1
            · rename_i f tf e5
              exact ⟨_, _, _, _, f, tf, e, e5, c1⟩
            · cases c1
          · cases c1
        · unfold celB at c2
          split at c2
          · rename_i cl cld c csl e
            have := of_decide_eq_true c2
            subst this
            exact ⟨_, _, _, e⟩
          · cases c2
        · intro z hz e
          have := s9 z hz
          rw [e] at this
          cases this
      · cases b1
    | _ => cases b1
/-! ### the Hook -/
def exmB (G : Prog) (K : PySem.W.Frag) : Bool := G.exm.all fun p => decide (PySem.W.exmOne K (.ref (He.ga K p.1.1)) (.ref (He.ga K p.1.2)) = some p.2) && (He.Fa.glo p.1.2).ok K
abbrev AlX : Type := He.AlD × (Bool × List XW)
def obsX (ex : PySem.W.Frag → Bool) (G : Prog) (fn : List He.DefD) (file : Str) (xs : List XD) (K : PySem.W.Frag) : AlX := (obsP ex G fn K, exmB G K && xs.all fun d => xiB file K d, xs.map fun d => xfW K d.cls)
def valX (fn : List He.DefD) (xs : List XD) : AlX := (He.valD fn, true, xs.map XD.val)
def SaysX (ex : PySem.W.Frag → Bool) (G : Prog) (fn : List He.DefD) (file : Str) (xs : List XD) (K : PySem.W.Frag) : Prop := obsX ex G fn file xs K = valX fn xs
def asX (g : Addr → Option Obj) (n : Nat) : List Addr := He.asD g n ++ [cStatics]
def obsXG (n : Nat) (ex : PySem.W.Frag → Bool) (G : Prog) (fn : List He.DefD) (file : Str) (xs : List XD) (g : Addr → Option Obj) : AlX := obsX ex G fn file xs (He.frG g (asX g n))
def hookX (n : Nat) (ex : PySem.W.Frag → Bool) (G : Prog) (fn : List He.DefD) (file : Str) (xs : List XD) : PySem.W.Hook where
  α := AlX
  obs := fun s => obsXG n ex G fn file xs s.heap.get?
  val := fun _ => valX fn xs
  says := fun _ h => ∃ K : PySem.W.Frag, K.In h ∧ SaysX ex G fn file xs K
  of := fun _ _ e => ⟨_, He.frG_in, e⟩
  keeps := fun _ _ _ ⟨K, hK, c⟩ k => ⟨K, PySem.W.Frag.In.keeps hK k, c⟩
theorem obsXG_eq {n : Nat} {ex : PySem.W.Frag → Bool} {G : Prog} {fn : List He.DefD} {file : Str} {xs : List XD} {g : Addr → Option Obj} {s : Shared} (h : ∀ a, g a = s.heap.get? a) : obsXG n ex G fn file xs g = (hookX n ex G fn file xs).obs s := by
  have e : g = s.heap.get? := funext h
  rw [e] <;> rfl
theorem SaysX.p {ex : PySem.W.Frag → Bool} {G : Prog} {fn : List He.DefD} {file : Str} {xs : List XD} {K : PySem.W.Frag} (c : SaysX ex G fn file xs K) : SaysP ex G fn K := congrArg (fun z : AlX => z.1) c
theorem SaysX.xx {ex : PySem.W.Frag → Bool} {G : Prog} {fn : List He.DefD} {xs : List XD} {K : PySem.W.Frag} {P : Program} {h : Heap} {mg : Str → Option Value} (c : SaysX ex G fn P.main.file xs K) (X : K.In h) (N : h.Ns mainGlobals mg) (he : G.exs = xs.map fun d => (d.cls, d.fl))
    (hS : ∀ d ∈ xs, xsB d = true ∧ XT d) (top : (P.main.scope.names.lookup ("super" : Str)).isSome = false) : Xx G P K mg := by
  have c1 : (exmB G K && xs.all fun d => xiB P.main.file K d) = true := congrArg (fun z : AlX => z.2.1) c
  have c2 : xs.map (fun d => xfW K d.cls) = xs.map XD.val := congrArg (fun z : AlX => z.2.2) c
  obtain ⟨m1, m2⟩ := Bool.and_eq_true_iff.mp c1
  refine ⟨fun p hp => ?_, fun p hp => ?_⟩
  · rw [he] at hp
    obtain ⟨d, hd, rfl⟩ := List.mem_map.mp hp
    exact xini X N (List.map_inj_left.mp c2 d hd) (List.all_eq_true.mp m2 d hd) (hS d hd).1 (hS d hd).2 top
  · obtain ⟨q1, q2⟩ := Bool.and_eq_true_iff.mp (List.all_eq_true.mp m1 p hp)
    exact ⟨of_decide_eq_true q1, He.glo_ok X N q2⟩
end Dp
end

section
set_option Elab.async false
set_option linter.all false
set_option maxRecDepth 100000
set_option maxHeartbeats 4000000
/-! Evaluation by rewriting. -/
namespace Dp
open PySem PySem.Spec PyProof.Rows
/-! ### rows of numbers, lists of them -/
abbrev pt (l : List Int) : D := .tup (l.map D.int)
abbrev pl (ps : List (List Int)) : D := .lst (ps.map pt)
theorem py_ints : ∀ l : List Int, D.pys (l.map D.int) = some (l.map PyData.int)
  | [] => rfl
  | i :: l => by
    show (D.py (.int i)).bind (fun p => (D.pys (l.map D.int)).map fun ps => p :: ps) = _
    rw [py_ints l]
    rfl
theorem py_pt (l : List Int) : D.py (pt l) = some (.tuple (l.map PyData.int)) := by
  show (D.pys (l.map D.int)).map PyData.tuple = _
  rw [py_ints]
  rfl
theorem py_pts : ∀ ps : List (List Int), D.pys (ps.map pt) = some (ps.map fun l => PyData.tuple (l.map PyData.int))
  | [] => rfl
  | l :: ps => by
    show (D.py (pt l)).bind (fun p => (D.pys (ps.map pt)).map fun qs => p :: qs) = _
    rw [py_pts ps, py_pt]
    rfl
theorem py_pl (ps : List (List Int)) : D.py (pl ps) = some (.list (ps.map fun l => PyData.tuple (l.map PyData.int))) := by
  show (D.pys (ps.map pt)).map PyData.list = _
  rw [py_pts]
  rfl
theorem eqv_ints : ∀ a b : List Int, PyData.eqvAll (a.map PyData.int) (b.map PyData.int) = decide (a = b)
  | [], [] => rfl
  | [], _ :: _ => by simp [PyData.eqvAll]
  | _ :: _, [] => by simp [PyData.eqvAll]
  | i :: a, j :: b => by
    have ih := eqv_ints a b
    show (PyData.eqv (.int i) (.int j) && PyData.eqvAll (a.map PyData.int) (b.map PyData.int)) = _
    rw [ih, Bool.eq_iff_iff]
    show ((i == j) && decide (a = b)) = true ↔ _
    simp
theorem eqv_pts : ∀ a b : List (List Int), PyData.eqvAll (a.map fun l => PyData.tuple (l.map PyData.int)) (b.map fun l => PyData.tuple (l.map PyData.int)) = decide (a = b)
  | [], [] => rfl
  | [], _ :: _ => by simp [PyData.eqvAll]
  | _ :: _, [] => by simp [PyData.eqvAll]
  | i :: a, j :: b => by
    have ih := eqv_pts a b
    show (PyData.eqvAll (i.map PyData.int) (j.map PyData.int) && PyData.eqvAll (a.map fun l => PyData.tuple (l.map PyData.int)) (b.map fun l => PyData.tuple (l.map PyData.int))) = _
    rw [ih, eqv_ints, Bool.eq_iff_iff]
    simp
theorem sh_ints : ∀ l : List Int, PyData.canLayAll0 (l.map PyData.int) = true ∧ PyData.depthAll (l.map PyData.int) = 0
  | [] => ⟨rfl, rfl⟩
  | i :: l => by
    obtain ⟨h1, h2⟩ := sh_ints l
    exact ⟨by show (true && PyData.canLayAll0 (l.map PyData.int)) = true; rw [h1]; rfl, by show max 0 (PyData.depthAll (l.map PyData.int)) = 0; rw [h2]; rfl⟩
theorem sh_int (i : Int) : SeqAt.shaped (.int i) = true := rfl
theorem sh_pt (l : List Int) : SeqAt.shaped (.tuple (l.map PyData.int)) = true := by
  obtain ⟨h1, h2⟩ := sh_ints l
  show (PyData.canLayAll0 (l.map PyData.int) && decide (PyData.depthAll (l.map PyData.int) + 1 ≤ 64)) = true
  rw [h1, h2]
  rfl
theorem sh_pts : ∀ ps : List (List Int), PyData.canLayAll0 (ps.map fun l => PyData.tuple (l.map PyData.int)) = true ∧ PyData.depthAll (ps.map fun l => PyData.tuple (l.map PyData.int)) ≤ 1
  | [] => ⟨rfl, Nat.zero_le _⟩
  | l :: ps => by
    obtain ⟨h1, h2⟩ := sh_pts ps
    obtain ⟨g1, g2⟩ := sh_ints l
    refine ⟨by show (PyData.canLayAll0 (l.map PyData.int) && PyData.canLayAll0 (ps.map fun l => PyData.tuple (l.map PyData.int))) = true; rw [h1, g1]; rfl, ?_⟩
    show max (PyData.depthAll (l.map PyData.int) + 1) (PyData.depthAll (ps.map fun l => PyData.tuple (l.map PyData.int))) ≤ 1
    rw [g2]
    omega
theorem sh_pl (ps : List (List Int)) : SeqAt.shaped (.list (ps.map fun l => PyData.tuple (l.map PyData.int))) = true := by
  obtain ⟨h1, h2⟩ := sh_pts ps
  show (PyData.canLayAll0 _ && decide (PyData.depthAll _ + 1 ≤ 64)) = true
  rw [h1, Bool.true_and, decide_eq_true_eq]
  omega
theorem eq_int (i j : Int) : eqD? (.int i) (.int j) = some (decide (i = j)) := by
  show some (i == j) = _
  congr 1
theorem eq_pt (a b : List Int) : eqD? (pt a) (pt b) = some (decide (a = b)) := by
  unfold eqD?
  rw [py_pt, py_pt]
  dsimp only
  rw [sh_pt, sh_pt, ← eqv_ints]
  rfl
theorem eq_pl (a b : List (List Int)) : eqD? (pl a) (pl b) = some (decide (a = b)) := by
  unfold eqD?
  rw [py_pl, py_pl]
  dsimp only
  rw [sh_pl, sh_pl, ← eqv_pts]
  rfl
theorem any_pts (a : List Int) : ∀ ps : List (List Int), ((ps.map fun l => PyData.tuple (l.map PyData.int)).any fun z => PyData.eqv z (.tuple (a.map PyData.int))) = decide (a ∈ ps)
  | [] => by simp
  | l :: ps => by
    rw [List.map_cons, List.any_cons, any_pts a ps]
    show (PyData.eqvAll (l.map PyData.int) (a.map PyData.int) || decide (a ∈ ps)) = _
    rw [eqv_ints, Bool.eq_iff_iff]
    simp only [Bool.or_eq_true, decide_eq_true_eq, List.mem_cons]
    exact ⟨fun h => h.imp Eq.symm id, fun h => h.imp Eq.symm id⟩
theorem in_pl (a : List Int) (ps : List (List Int)) : inD? (pt a) (pl ps) = some (decide (a ∈ ps)) := by
  show (match (pt a).py, D.pys (ps.map pt) with
    | some p, some qs => if (SeqAt.shaped p && SeqAt.shaped (.list qs)) = true then some (qs.any fun z => PyData.eqv z p) else none
    | _, _ => none) = _
  rw [py_pt, py_pts]
  dsimp only
  rw [sh_pt, sh_pl, any_pts]
  rfl
theorem nums_ints : ∀ l : List Int, D.nums (l.map D.int) = some l
  | [] => rfl
  | i :: l => by
    show (D.nums (l.map D.int)).map _ = _
    rw [nums_ints l]
    rfl
/-! ### the readings by rewriting -/
@[simp] theorem st_ok {α : Type} (a : α) (m : Mu) (s : Sl) (f : α → Mu → SR) : (R.ok a m).st s f = f a m := rfl
@[simp] theorem then_nx (s : Sl) (m : Mu) (f : Sl → Mu → SR) : (SR.nx s m).then_ f = f s m := rfl
@[simp] theorem then_rt (v : SV) (m : Mu) (f : Sl → Mu → SR) : (SR.rt v m).then_ f = .rt v m := rfl
@[simp] theorem back_nx (s : Sl) (m : Mu) : (SR.nx s m).back = .ok (.val .non) m := rfl
@[simp] theorem back_rt (v : SV) (m : Mu) : (SR.rt v m).back = .ok v m := rfl
@[simp] theorem guard_true {α : Type} (r : R α) : guardR true r = r := rfl
@[simp] theorem fz_val (d : D) : (SV.val d).fz = d := rfl
@[simp] theorem fz_own (c : Cell) : (SV.own c).fz = c.fz := rfl
@[simp] theorem fz_lst (ds : List D) : (Cell.lst ds).fz = .lst ds := rfl
@[simp] theorem fz_dk (ks : List L2.Key) (ds : List D) : (Cell.dk ks ds).fz = .dk ks ds := rfl
@[simp] theorem fz_ins (c : Str) (ks : List Str) (ds : List D) : (Cell.ins c ks ds).fz = .ins c ks ds := rfl
@[simp] theorem see_int (m : Mu) (i : Int) : seeD m (.int i) = .int i := rfl
@[simp] theorem see_bl (m : Mu) (i : Bool) : seeD m (.bl i) = .bl i := rfl
@[simp] theorem see_tup (m : Mu) (i : List D) : seeD m (.tup i) = .tup i := rfl
@[simp] theorem see_lst (m : Mu) (i : List D) : seeD m (.lst i) = .lst i := rfl
@[simp] theorem see_seq (m : Mu) (i : List D) : seeD m (.seq i) = .seq i := rfl
@[simp] theorem see_dk (m : Mu) (k : List L2.Key) (i : List D) : seeD m (.dk k i) = .dk k i := rfl
@[simp] theorem see_ins (m : Mu) (c : Str) (k : List Str) (i : List D) : seeD m (.ins c k i) = .ins c k i := rfl
@[simp] theorem b_add (i j : Int) (m : Mu) : opB .add (.int i) (.int j) m = .ok (.val (.int (i + j))) m := rfl
@[simp] theorem b_sub (i j : Int) (m : Mu) : opB .sub (.int i) (.int j) m = .ok (.val (.int (i - j))) m := rfl
@[simp] theorem b_band (i j : Int) (m : Mu) : opB .band (.int i) (.int j) m = .ok (.val (.int (Builtin.bitAnd i j))) m := rfl
theorem b_mod {i j : Int} {m : Mu} (h : 0 < j) : opB .mod (.int i) (.int j) m = .ok (.val (.int (i % j))) m := by
  show guardR (decide (0 < j)) _ = _
  rw [decide_eq_true h]
  rfl
theorem b_fdiv {i j : Int} {m : Mu} (h : 0 < j) (h2 : j < 1073741824) : opB .fdiv (.int i) (.int j) m = .ok (.val (.int (i / j))) m := by
  show guardR (decide (0 < j) && decide (j < 1073741824)) _ = _
  rw [decide_eq_true h, decide_eq_true h2]
  rfl
theorem small_of {i : Int} (h1 : -(2 ^ 64) < i) (h2 : i < 2 ^ 64) : small64 i = true := by
  unfold small64
  rw [decide_eq_true h1, decide_eq_true h2]
  rfl
theorem b_mul {i j : Int} {m : Mu} (h : (-(2 ^ 64) < i ∧ i < 2 ^ 64) ∨ (-(2 ^ 64) < j ∧ j < 2 ^ 64)) : opB .mul (.int i) (.int j) m = .ok (.val (.int (i * j))) m := by
  show guardR (small64 i || small64 j) _ = _
  rcases h with h | h
  · rw [small_of h.1 h.2]
    rfl
  · rw [small_of h.1 h.2, Bool.or_true]
    rfl
theorem r62_of {n : Int} (h1 : -1000000 ≤ n) (h2 : n ≤ 1000000) : r62 n = true := by
  unfold r62
  rw [Bool.and_eq_true, decide_eq_true_eq, decide_eq_true_eq]
  omega
theorem r62_nat {n : Nat} (h : n ≤ 1000) : r62 (n : Int) = true := r62_of (Int.le_trans (by decide) (Int.natCast_nonneg n)) (Int.le_trans (Int.ofNat_le.mpr h) (by decide))
theorem b_mulS {i j : Int} {m : Mu} (h : -1000000 ≤ j) (h2 : j ≤ 1000000) : opB .mul (.int i) (.int j) m = .ok (.val (.int (i * j))) m := b_mul (.inr ⟨by omega, by omega⟩)
theorem c_of {o : CO} {a b : D} {m : Mu} {r : Bool} (h : cmpD? o a b = some r) : opC o a b m = .ok (.val (.bl r)) m := by
  unfold opC
  rw [h]
@[simp] theorem c_lt (i j : Int) (m : Mu) : opC .lt (.int i) (.int j) m = .ok (.val (.bl (decide (i < j)))) m := rfl
@[simp] theorem c_le (i j : Int) (m : Mu) : opC .le (.int i) (.int j) m = .ok (.val (.bl (decide (i ≤ j)))) m := rfl
@[simp] theorem c_gt (i j : Int) (m : Mu) : opC .gt (.int i) (.int j) m = .ok (.val (.bl (decide (j < i)))) m := rfl
@[simp] theorem c_ge (i j : Int) (m : Mu) : opC .ge (.int i) (.int j) m = .ok (.val (.bl (decide (j ≤ i)))) m := rfl
@[simp] theorem c_eq (i j : Int) (m : Mu) : opC .eq (.int i) (.int j) m = .ok (.val (.bl (decide (i = j)))) m := c_of (eq_int i j)
@[simp] theorem c_ne (i j : Int) (m : Mu) : opC .ne (.int i) (.int j) m = .ok (.val (.bl (!decide (i = j)))) m := c_of (show (eqD? (.int i) (.int j)).map not = some (!decide (i = j)) by rw [eq_int]; rfl)
@[simp] theorem c_eqpt (i j : List Int) (m : Mu) : opC .eq (pt i) (pt j) m = .ok (.val (.bl (decide (i = j)))) m := c_of (eq_pt i j)
@[simp] theorem c_nept (i j : List Int) (m : Mu) : opC .ne (pt i) (pt j) m = .ok (.val (.bl (!decide (i = j)))) m := c_of (show (eqD? (pt i) (pt j)).map not = some (!decide (i = j)) by rw [eq_pt]; rfl)
@[simp] theorem c_eqpl (i j : List (List Int)) (m : Mu) : opC .eq (pl i) (pl j) m = .ok (.val (.bl (decide (i = j)))) m := c_of (eq_pl i j)
@[simp] theorem c_in (i : List Int) (j : List (List Int)) (m : Mu) : opC .inn (pt i) (pl j) m = .ok (.val (.bl (decide (i ∈ j)))) m := c_of (in_pl i j)
@[simp] theorem c_nin (i : List Int) (j : List (List Int)) (m : Mu) : opC .nin (pt i) (pl j) m = .ok (.val (.bl (!decide (i ∈ j)))) m := c_of (show (inD? (pt i) (pl j)).map not = some (!decide (i ∈ j)) by rw [in_pl]; rfl)
@[simp] theorem t_bl (b : Bool) : truthD (.bl b) = some b := rfl
@[simp] theorem t_int (b : Int) : truthD (.int b) = some (b != 0) := rfl
theorem atI_nat {α : Type} {xs : List α} {i : Nat} {d : α} (h : xs[i]? = some d) : L2.atI xs (i : Int) = some d := by
  have hi := (List.getElem?_eq_some_iff.mp h).1
  unfold L2.atI L2.ixN
  rw [if_pos (by omega), if_pos (by omega)]
  exact h
theorem ix_tup {ds : List D} {i : Int} {d : D} {m : Mu} (h0 : 0 ≤ i) (h : ds[i.toNat]? = some d) : opIx (.tup ds) (.int i) m = .ok (.val d) m := by
  have e := atI_nat h
  rw [Int.toNat_of_nonneg h0] at e
  show (match L2.atI ds i with | some d => R.ok (SV.val d) m | none => R.bad) = _
  rw [e]
theorem ix_lst {ds : List D} {i : Int} {d : D} {m : Mu} (h0 : 0 ≤ i) (h : ds[i.toNat]? = some d) : opIx (.lst ds) (.int i) m = .ok (.val d) m := ix_tup h0 h
theorem ix_seq {ds : List D} {i : Int} {d : D} {m : Mu} (h0 : 0 ≤ i) (h : ds[i.toNat]? = some d) : opIx (.seq ds) (.int i) m = .ok (.val d) m := ix_tup h0 h
@[simp] theorem f_len_tup (ds : List D) (m : Mu) : opF .len [.tup ds] m = .ok (.val (.int ds.length)) m := rfl
@[simp] theorem f_len_seq (ds : List D) (m : Mu) : opF .len [.seq ds] m = .ok (.val (.int ds.length)) m := rfl
@[simp] theorem f_int (i : Int) (m : Mu) : opF .int [.int i] m = .ok (.val (.int i)) m := rfl
@[simp] theorem f_min (i j : Int) (m : Mu) : opF .min [.int i, .int j] m = .ok (.val (.int (if j < i then j else i))) m := rfl
@[simp] theorem f_max (i j : Int) (m : Mu) : opF .max [.int i, .int j] m = .ok (.val (.int (if j > i then j else i))) m := rfl
@[simp] theorem f_tuple_lst (ds : List D) (m : Mu) : opF .tuple [.lst ds] m = .ok (.val (.tup ds)) m := rfl
@[simp] theorem f_tuple_tup (ds : List D) (m : Mu) : opF .tuple [.tup ds] m = .ok (.val (.tup ds)) m := rfl
@[simp] theorem f_list_lst (ds : List D) (m : Mu) : opF .list [.lst ds] m = .ok (.own (.lst ds)) m := rfl
@[simp] theorem f_list_tup (ds : List D) (m : Mu) : opF .list [.tup ds] m = .ok (.own (.lst ds)) m := rfl
/-- a loop: the state told by a value -/
theorem forL_run {β : Type} {fg : List Nat} {F : D → Sl → Mu → SR} {m : Mu} (st : β → Sl) (step : β → D → β) (mid : β → D → Sl) (hw : ∀ b d, wipeS (mid b d) fg = st (step b d)) : ∀ (ds : List D) (b : β), (∀ b d, d ∈ ds → F d (st b) m = .nx (mid b d) m) → forL fg F ds (st b) m = .nx (st (ds.foldl step b)) m
  | [], b, _ => rfl
  | d :: ds, b, h => by
    have h1 := h b d (by simp)
    have ih := forL_run st step mid hw ds (step b d) fun b' d' hd => h b' d' (by simp [hd])
    unfold forL
    rw [h1]
    dsimp only
    rw [hw]
    exact ih
/-- .. with what holds of the value on the way -/
theorem forL_inv {β : Type} {fg : List Nat} {F : D → Sl → Mu → SR} (st : β → Sl) (mu : β → Mu) (step : β → D → β) (I : List D → β → Prop) : ∀ (ds : List D) (b : β), I ds b → (∀ d ds b, I (d :: ds) b → ∃ s1, (F d (st b) (mu b) = .nx s1 (mu (step b d)) ∨ F d (st b) (mu b) = .ct s1 (mu (step b d))) ∧ wipeS s1 fg = st (step b d) ∧ I ds (step b d)) → forL fg F ds (st b) (mu b) = .nx (st (ds.foldl step b)) (mu (ds.foldl step b)) ∧ I [] (ds.foldl step b)
  | [], b, hi, _ => ⟨rfl, hi⟩
  | d :: ds, b, hi, h => by
    obtain ⟨s1, h1, h2, h3⟩ := h d ds b hi
    have ih := forL_inv st mu step I ds (step b d) h3 h
    refine ⟨?_, ih.2⟩
    unfold forL
    rcases h1 with h1 | h1 <;> (rw [h1]; dsimp only; rw [h2]; exact ih.1)
/-- a comprehension without a test -/
theorem lcL_map {F : D → Mu → R (Option D)} {m : Mu} (g : D → D) : ∀ (ds acc : List D), acc.length + ds.length ≤ sizeLine → (∀ d ∈ ds, F d m = .ok (some (g d)) m) → lcL F ds acc m = .ok (acc ++ ds.map g) m
  | [], acc, _, _ => by simp [lcL]
  | d :: ds, acc, hl, h => by
    unfold lcL
    rw [h d (by simp)]
    simp only [R.bindN_ok]
    rw [decide_eq_true (by simp at hl; omega)]
    rw [guard_true, lcL_map g ds (acc ++ [g d]) (by simp at hl ⊢; omega) fun e he => h e (by simp [he])]
    simp
theorem lcL_filter {F : D → Mu → R (Option D)} {m : Mu} (q : D → Bool) (g : D → D) : ∀ (ds acc : List D), acc.length + ds.length ≤ sizeLine → (∀ d ∈ ds, F d m = .ok (if q d = true then some (g d) else none) m) → lcL F ds acc m = .ok (acc ++ (ds.filter q).map g) m
  | [], acc, _, _ => by simp [lcL]
  | d :: ds, acc, hl, h => by
    unfold lcL
    rw [h d (by simp)]
    simp only [R.bindN_ok]
    by_cases hq : q d = true
    · rw [if_pos hq]
      dsimp only
      rw [decide_eq_true (by simp at hl; omega)]
      rw [guard_true, lcL_filter q g ds (acc ++ [g d]) (by simp at hl ⊢; omega) fun e he => h e (by simp [he]), List.filter_cons_of_pos hq]
      simp
    · rw [if_neg hq]
      dsimp only
      rw [lcL_filter q g ds acc (by simp at hl; omega) fun e he => h e (by simp [he]), List.filter_cons_of_neg hq]
@[simp] theorem f_len_lst (ds : List D) (m : Mu) : opF .len [.lst ds] m = .ok (.val (.int ds.length)) m := rfl
end Dp
end

section
set_option Elab.async false
set_option linter.all false
set_option maxRecDepth 100000
set_option maxHeartbeats 0
namespace K04
open PySem PySem.Spec PyProof.Rows L2 Dp
/-! ### the text -/
def top (i : Nat) : Stmt := PySem.Challenge.pw_onlyfilling_k04_fewest_points.main.body.getD i (.Pass ⟨0, 0, 0, 0⟩)
def mth (i j : Nat) : Stmt := match top i with
  | .ClassDef _ _ _ body _ _ _ _ _ _ _ => body.getD j (.Pass ⟨0, 0, 0, 0⟩)
  | _ => .Pass ⟨0, 0, 0, 0⟩
def l_0_0 : Ss := (.cons (.ife (.cmp .gt (.e (.call 12 (.cons (.var 2) (.cons (.var 6) .nil)))) (.e (.int 170)))
      (.cons (.asg (.nm 6) (.bin .sub (.e (.var 6)) (.e (.int 1))))
      .nil)
      .nil)
      .nil)
def l_0_1 : Ss := (.cons (.asg (.nm 4) (.bin .mod (.e (.bif .int (.cons (.e (.bin .add (.e (.call 3 (.cons (.var 1) (.cons (.int 30) .nil)))) (.e (.var 7)))) .nil))) (.e (.bin .add (.e (.bin .mul (.e (.var 6)) (.e (.bin .sub (.e (.var 2)) (.e (.int 1)))))) (.e (.int 1))))))
      (.cons (.ife (.cmp .ne (.e (.call 4 (.cons (.var 2) (.cons (.var 6) (.cons (.var 4) .nil))))) (.e (.call 11 (.cons (.var 2) (.cons (.var 6) (.cons (.var 4) .nil))))))
      (.cons (.ret (.bl false))
      .nil)
      .nil)
      (.cons (.ife (.not (.e (.e (.call 14 (.cons (.var 2) (.cons (.var 6) (.cons (.var 4) (.cons (.var 8) .nil))))))))
      (.cons (.ret (.bl false))
      .nil)
      .nil)
      .nil)))
/-- law -/
def b_0 : Ss := (.cons (.asgM 1 (.call 1 (.cons (.var 0) .nil)))
      (.cons (.asg (.nm 2) (.call 2 (.cons (.var 1) (.cons (.int 13) .nil))))
      (.cons (.asg (.nm 3) (.bin .mod (.e (.bif .int (.cons (.e (.bin .add (.e (.bin .add (.e (.int 3)) (.e (.bin .mul (.e (.int 30)) (.e (.call 3 (.cons (.var 1) (.cons (.int 3) .nil)))))))) (.e (.call 3 (.cons (.var 1) (.cons (.int 30) .nil)))))) .nil))) (.e (.int 91))))
      (.cons (.asg (.nm 4) (.bin .mod (.e (.bif .int (.cons (.e (.bin .add (.e (.bin .add (.e (.call 3 (.cons (.var 1) (.cons (.int 30) .nil)))) (.e (.bin .mul (.e (.int 30)) (.e (.call 3 (.cons (.var 1) (.cons (.int 30) .nil)))))))) (.e (.bin .mul (.e (.int 900)) (.e (.call 3 (.cons (.var 1) (.cons (.int 2) .nil)))))))) .nil))) (.e (.bin .add (.e (.bin .mul (.e (.var 3)) (.e (.bin .sub (.e (.var 2)) (.e (.int 1)))))) (.e (.int 1))))))
      (.cons (.asg (.nm 5) (.call 4 (.cons (.var 2) (.cons (.var 3) (.cons (.var 4) .nil)))))
      (.cons (.ife (.or (.cons (.not (.e (.e (.call 10 (.cons (.var 5) .nil))))) (.cons (.cmp .ne (.e (.var 5)) (.e (.call 11 (.cons (.var 2) (.cons (.var 3) (.cons (.var 4) .nil)))))) .nil)))
      (.cons (.ret (.bl false))
      .nil)
      .nil)
      (.cons (.asg (.nm 6) (.bin .mod (.e (.bif .int (.cons (.e (.bin .add (.e (.int 2)) (.e (.call 3 (.cons (.var 1) (.cons (.int 8) .nil)))))) .nil))) (.e (.int 8))))
      (.cons (.for_ (.nm 7) (.rng1 (.int 8)) l_0_0 [])
      (.cons (.asg (.nm 8) (.call 13 (.cons (.var 2) (.cons (.var 6) .nil))))
      (.cons (.for_ (.nm 7) (.rng1 (.int 2)) l_0_1 [])
      (.cons (.asg (.tl [4, 9]) (.call 36 (.cons (.var 1) (.cons (.var 2) (.cons (.var 6) (.cons (.var 8) .nil))))))
      (.cons (.ife (.cmp .lt (.e (.var 9)) (.e (.call 4 (.cons (.var 2) (.cons (.var 6) (.cons (.var 4) .nil))))))
      (.cons (.ret (.bl false))
      .nil)
      .nil)
      (.cons (.ret (.call 39 (.cons (.var 1) (.cons (.var 2) (.cons (.var 6) .nil)))))
      .nil)))))))))))))
def f_0 : Fn := ⟨("law", none), "law", ["script"], ["script", "draws", "prime", "far", "degree", "told", "size", "turn", "points", "places"], [], b_0⟩
def d_0 : He.DefD := ⟨("law", none), "law", "law", defArgs (top 51), defBody (top 51), defScope (top 51), [], []⟩
def l_1_0 : Ss := (.cons (.ife (.cmp .gt (.e (.var 3)) (.e (.int 0)))
      (.cons (.om 1 .append (.cons (.bin .mod (.e (.bif .int (.cons (.e (.var 3)) .nil))) (.e (.int 30))) .nil))
      (.cons (.asg (.nm 3) (.bin .fdiv (.e (.var 3)) (.e (.int 30))))
      .nil))
      .nil)
      .nil)
def l_1_1 : Ss := (.cons (.asg (.nm 5) (.bin .mod (.e (.bif .int (.cons (.e (.bin .add (.e (.bin .add (.e (.bin .add (.e (.bin .mul (.e (.var 5)) (.e (.var 5)))) (.e (.bin .mul (.e (.var 4)) (.e (.int 16807)))))) (.e (.var 2)))) (.e (.int 5)))) .nil))) (.e (.int 2147483629))))
      (.cons (.om 1 .append (.cons (.bin .mod (.e (.bif .int (.cons (.e (.var 5)) .nil))) (.e (.int 30))) .nil))
      .nil))
def l_1_2 : Ss := (.cons (.asg (.nm 3) (.bif .int (.cons (.e (.idx (.e (.var 0)) (.var 2))) .nil)))
      (.cons (.ife (.cmp .lt (.e (.var 3)) (.e (.int 0)))
      (.cons (.asg (.nm 3) (.bin .sub (.e (.int 3)) (.e (.var 3))))
      .nil)
      .nil)
      (.cons (.ife (.cmp .ge (.e (.var 3)) (.e (.bin .pow (.e (.int 10)) (.e (.int 18)))))
      (.cons (.for_ (.nm 4) (.rng1 (.int 40)) l_1_0 [])
      .nil)
      (.cons (.asg (.nm 5) (.bin .mod (.e (.bif .int (.cons (.e (.bin .add (.e (.bin .add (.e (.bin .mul (.e (.var 3)) (.e (.int 69621)))) (.e (.bin .mul (.e (.var 2)) (.e (.int 48271)))))) (.e (.int 11)))) .nil))) (.e (.int 2147483647))))
      (.cons (.for_ (.nm 4) (.rng1 (.int 3)) l_1_1 [])
      .nil)))
      .nil)))
/-- _law_draws -/
def b_1 : Ss := (.cons (.asgO 1 (.lst .nil))
      (.cons (.for_ (.nm 2) (.rng1 (.bif .min (.cons (.e (.bif .len (.cons (.e (.var 0)) .nil))) (.cons (.e (.int 63)) .nil)))) l_1_2 [2, 3, 4, 5])
      (.cons (.om 1 .reverse .nil)
      (.cons (.retS 1)
      .nil))))
def f_1 : Fn := ⟨("_law_draws", none), "_law_draws", ["script"], ["script", "found", "at", "cell", "turn", "mixed"], [], b_1⟩
def d_1 : He.DefD := ⟨("_law_draws", none), "_law_draws", "_law_draws", defArgs (top 33), defBody (top 33), defScope (top 33), [], []⟩
/-- _law_prime -/
def b_2 : Ss := (.cons (.asg (.nm 2) (.lc (.nm 3) [("prime", 3)] (.seq (.lst (.cons (.int 3) (.cons (.int 2) (.cons (.int 5) (.cons (.int 7) (.cons (.int 11) (.cons (.int 13) .nil)))))))) (.some (.cmp .le (.e (.var 3)) (.e (.var 1)))) (.var 3)))
      (.cons (.ret (.idx (.e (.var 2)) (.call 3 (.cons (.var 0) (.cons (.bif .len (.cons (.e (.var 2)) .nil)) .nil)))))
      .nil))
def f_2 : Fn := ⟨("_law_prime", none), "_law_prime", ["draws", "most"], ["draws", "most", "primes", "prime"], [], b_2⟩
def d_2 : He.DefD := ⟨("_law_prime", none), "_law_prime", "_law_prime", defArgs (top 37), defBody (top 37), defScope (top 37), [], []⟩
/-- _law_take -/
def b_3 : Ss := (.cons (.ife (.cmp .eq (.e (.bif .len (.cons (.e (.var 0)) .nil))) (.e (.int 0)))
      (.cons (.ret (.int 0))
      .nil)
      .nil)
      (.cons (.ret (.bin .mod (.e (.bif .int (.cons (.e (.mpop (.var 0))) .nil))) (.e (.var 1))))
      .nil))
def f_3 : Fn := ⟨("_law_take", none), "_law_take", ["draws", "many"], ["draws", "many"], [], b_3⟩
def d_3 : He.DefD := ⟨("_law_take", none), "_law_take", "_law_take", defArgs (top 34), defBody (top 34), defScope (top 34), [], []⟩
/-- fewest_points -/
def b_4 : Ss := (.cons (.ex (.call 5 (.cons (.var 0) .nil)))
      (.cons (.asg (.tp [3, 4]) (.call 7 (.cons (.var 0) (.cons (.call 8 (.cons (.var 1) .nil)) (.cons (.var 2) .nil)))))
      (.cons (.ife (.cmp .eq (.e (.var 3)) (.e (.var 1)))
      (.cons (.ret (.int 1))
      .nil)
      .nil)
      (.cons (.ret (.bin .mul (.e (.bin .sub (.e (.var 0)) (.e (.var 4)))) (.e (.call 9 (.cons (.var 0) (.cons (.bin .sub (.e (.bin .sub (.e (.var 1)) (.e (.var 3)))) (.e (.int 1))) .nil))))))
      .nil))))
def f_4 : Fn := ⟨("fewest_points", none), "fewest_points", ["prime", "size", "degree"], ["prime", "size", "degree", "whole", "rest"], [], b_4⟩
def d_4 : He.DefD := ⟨("fewest_points", none), "fewest_points", "fewest_points", defArgs (top 30), defBody (top 30), defScope (top 30), [], []⟩
/-- check_prime -/
def b_5 : Ss := (.cons (.ife (.or (.cons (.not (.e (.e (.call 6 (.cons (.var 0) .nil))))) (.cons (.cmp .nin (.e (.var 0)) (.e (.tup (.cons (.int 2) (.cons (.int 3) (.cons (.int 5) (.cons (.int 7) (.cons (.int 11) (.cons (.int 13) .nil))))))))) .nil)))
      (.cons (.rse "BadPrime" (.var 0))
      .nil)
      .nil)
      (.cons (.ret (.var 0))
      .nil))
def f_5 : Fn := ⟨("check_prime", none), "check_prime", ["prime"], ["prime"], [], b_5⟩
def d_5 : He.DefD := ⟨("check_prime", none), "check_prime", "check_prime", defArgs (top 10), defBody (top 10), defScope (top 10), [], []⟩
/-- _is_integer -/
def b_6 : Ss := (.cons (.ret (.and (.cons (.isi (.var 0) (.bt "int")) (.cons (.not (.isi (.var 0) (.bt "bool"))) .nil))))
      .nil)
def f_6 : Fn := ⟨("_is_integer", none), "_is_integer", ["thing"], ["thing"], [], b_6⟩
def d_6 : He.DefD := ⟨("_is_integer", none), "_is_integer", "_is_integer", defArgs (top 9), defBody (top 9), defScope (top 9), [], []⟩
/-- _parted -/
def b_7 : Ss := (.cons (.ife (.or (.cons (.not (.e (.e (.call 6 (.cons (.var 2) .nil))))) (.cons (.not (.chn .le .le (.int 0) (.var 2) (.bin .mul (.e (.var 1)) (.e (.bin .sub (.e (.var 0)) (.e (.int 1))))))) .nil)))
      (.cons (.rse "BadNumber" (.var 2))
      .nil)
      .nil)
      (.cons (.ret (.bif .divmod (.cons (.e (.var 2)) (.cons (.e (.bin .sub (.e (.var 0)) (.e (.int 1)))) .nil))))
      .nil))
def f_7 : Fn := ⟨("_parted", none), "_parted", ["prime", "size", "degree"], ["prime", "size", "degree"], [], b_7⟩
def d_7 : He.DefD := ⟨("_parted", none), "_parted", "_parted", defArgs (top 29), defBody (top 29), defScope (top 29), [], []⟩
/-- _need_size -/
def b_8 : Ss := (.cons (.ife (.or (.cons (.not (.e (.e (.call 6 (.cons (.var 0) .nil))))) (.cons (.not (.chn .le .le (.int 0) (.var 0) (.int 90))) .nil)))
      (.cons (.rse "BadNumber" (.var 0))
      .nil)
      .nil)
      (.cons (.ret (.var 0))
      .nil))
def f_8 : Fn := ⟨("_need_size", none), "_need_size", ["size"], ["size"], [], b_8⟩
def d_8 : He.DefD := ⟨("_need_size", none), "_need_size", "_need_size", defArgs (top 12), defBody (top 12), defScope (top 12), [], []⟩
def l_9_0 : Ss := (.cons (.asg (.nm 2) (.bin .mul (.e (.var 2)) (.e (.var 0))))
      .nil)
/-- _whole_power -/
def b_9 : Ss := (.cons (.asg (.nm 2) (.int 1))
      (.cons (.for_ (.nm 3) (.rng1 (.var 1)) l_9_0 [3])
      (.cons (.ret (.var 2))
      .nil)))
def f_9 : Fn := ⟨("_whole_power", none), "_whole_power", ["base", "exponent"], ["base", "exponent", "told", "_"], [], b_9⟩
def d_9 : He.DefD := ⟨("_whole_power", none), "_whole_power", "_whole_power", defArgs (top 13), defBody (top 13), defScope (top 13), [], []⟩
/-- _law_plain -/
def b_10 : Ss := (.cons (.ret (.and (.cons (.isi (.var 0) (.bt "int")) (.cons (.not (.isi (.var 0) (.bt "bool"))) .nil))))
      .nil)
def f_10 : Fn := ⟨("_law_plain", none), "_law_plain", ["value"], ["value"], [], b_10⟩
def d_10 : He.DefD := ⟨("_law_plain", none), "_law_plain", "_law_plain", defArgs (top 35), defBody (top 35), defScope (top 35), [], []⟩
/-- _law_fewest -/
def b_11 : Ss := (.cons (.asg (.nm 3) (.bin .fdiv (.e (.var 2)) (.e (.bin .sub (.e (.var 0)) (.e (.int 1))))))
      (.cons (.asg (.nm 4) (.bin .sub (.e (.var 2)) (.e (.bin .mul (.e (.var 3)) (.e (.bin .sub (.e (.var 0)) (.e (.int 1))))))))
      (.cons (.ife (.cmp .eq (.e (.var 3)) (.e (.var 1)))
      (.cons (.ret (.int 1))
      .nil)
      .nil)
      (.cons (.ret (.bin .mul (.e (.bin .sub (.e (.var 0)) (.e (.var 4)))) (.e (.call 12 (.cons (.var 0) (.cons (.bin .sub (.e (.bin .sub (.e (.var 1)) (.e (.var 3)))) (.e (.int 1))) .nil))))))
      .nil))))
def f_11 : Fn := ⟨("_law_fewest", none), "_law_fewest", ["prime", "size", "degree"], ["prime", "size", "degree", "whole", "rest"], [], b_11⟩
def d_11 : He.DefD := ⟨("_law_fewest", none), "_law_fewest", "_law_fewest", defArgs (top 40), defBody (top 40), defScope (top 40), [], []⟩
def l_12_0 : Ss := (.cons (.asg (.nm 2) (.bin .mul (.e (.var 2)) (.e (.var 0))))
      .nil)
/-- _law_power -/
def b_12 : Ss := (.cons (.asg (.nm 2) (.int 1))
      (.cons (.for_ (.nm 3) (.rng1 (.var 1)) l_12_0 [3])
      (.cons (.ret (.var 2))
      .nil)))
def f_12 : Fn := ⟨("_law_power", none), "_law_power", ["base", "exponent"], ["base", "exponent", "answer", "turn"], [], b_12⟩
def d_12 : He.DefD := ⟨("_law_power", none), "_law_power", "_law_power", defArgs (top 38), defBody (top 38), defScope (top 38), [], []⟩
def l_13_0 : Ss := (.cons (.asgO 4 (.bin .add (.sl 4) (.e (.lc (.nm 6) [("number", 6)] (.rng1 (.var 0)) .none (.bin .add (.e (.var 5)) (.e (.tup (.cons (.var 6) .nil))))))))
      .nil)
def l_13_1 : Ss := (.cons (.asgO 4 (.lst .nil))
      (.cons (.gfz 2)
      (.cons (.for_ (.nm 5) (.seq (.var 2)) l_13_0 [5])
      (.cons (.mov 2 4)
      .nil))))
/-- _law_points -/
def b_13 : Ss := (.cons (.asgO 2 (.lst (.cons (.tup .nil) .nil)))
      (.cons (.for_ (.nm 3) (.rng1 (.var 1)) l_13_1 [3, 4, 5])
      (.cons (.retS 2)
      .nil)))
def f_13 : Fn := ⟨("_law_points", none), "_law_points", ["prime", "size"], ["prime", "size", "points", "turn", "longer", "point", "number"], [], b_13⟩
def d_13 : He.DefD := ⟨("_law_points", none), "_law_points", "_law_points", defArgs (top 39), defBody (top 39), defScope (top 39), [], []⟩
/-- _law_shown -/
def b_14 : Ss := (.cons (.asg (.nm 4) (.call 15 (.cons (.var 0) (.cons (.var 1) (.cons (.var 2) .nil)))))
      (.cons (.ife (.or (.cons (.not (.e (.e (.isi (.var 4) (.own "Poly"))))) (.cons (.not (.e (.e (.call 30 (.cons (.var 0) (.cons (.var 1) (.cons (.attr (.e (.var 4)) "terms") .nil))))))) .nil)))
      (.cons (.ret (.bl false))
      .nil)
      .nil)
      (.cons (.ife (.or (.cons (.cmp .ne (.e (.attr (.e (.var 4)) "prime")) (.e (.var 0))) (.cons (.cmp .ne (.e (.attr (.e (.var 4)) "size")) (.e (.var 1))) (.cons (.cmp .eq (.e (.bif .len (.cons (.e (.attr (.e (.var 4)) "terms")) .nil))) (.e (.int 0))) .nil))))
      (.cons (.ret (.bl false))
      .nil)
      .nil)
      (.cons (.ife (.or (.cons (.cmp .ne (.e (.bif .max (.cons (.e (.lc (.nm 5) [("term", 5)] (.seq (.attr (.e (.var 4)) "terms")) .none (.bif .sum (.cons (.e (.idx (.e (.var 5)) (.int 0))) .nil)))) .nil))) (.e (.var 2))) (.cons (.cmp .ne (.e (.prop (.var 4) "degree" [("Poly", 32)])) (.e (.var 2))) .nil)))
      (.cons (.ret (.bl false))
      .nil)
      .nil)
      (.cons (.ret (.cmp .eq (.e (.call 33 (.cons (.var 0) (.cons (.attr (.e (.var 4)) "terms") (.cons (.var 3) .nil))))) (.e (.call 11 (.cons (.var 0) (.cons (.var 1) (.cons (.var 2) .nil)))))))
      .nil)))))
def f_14 : Fn := ⟨("_law_shown", none), "_law_shown", ["prime", "size", "degree", "points"], ["prime", "size", "degree", "points", "poly", "term"], [], b_14⟩
def d_14 : He.DefD := ⟨("_law_shown", none), "_law_shown", "_law_shown", defArgs (top 45), defBody (top 45), defScope (top 45), [], []⟩
def l_15_0 : Ss := (.cons (.asg (.nm 9) (.bin .add (.e (.bin .add (.e (.slc (.e (.var 4)) .none (.some (.var 5)))) (.e (.tup (.cons (.bin .sub (.e (.var 0)) (.e (.int 1))) .nil))))) (.e (.slc (.e (.var 4)) (.some (.bin .add (.e (.var 5)) (.e (.int 1)))) .none))))
      (.cons (.asg (.nm 3) (.bop .mul [("Poly", 24)] (.var 3) (.new "Poly" 20 (.cons (.var 0) (.cons (.var 1) (.cons (.tup (.cons (.tup (.cons (.var 4) (.cons (.int 1) .nil))) (.cons (.tup (.cons (.var 9) (.cons (.bin .sub (.e (.var 0)) (.e (.int 1))) .nil))) .nil))) .nil))))))
      .nil))
def l_15_1 : Ss := (.cons (.asg (.nm 10) (.new "Poly" 20 (.cons (.var 0) (.cons (.var 1) (.cons (.tup (.cons (.tup (.cons (.bin .add (.e (.bin .add (.e (.slc (.e (.var 4)) .none (.some (.var 7)))) (.e (.tup (.cons (.int 1) .nil))))) (.e (.slc (.e (.var 4)) (.some (.bin .add (.e (.var 7)) (.e (.int 1)))) .none))) (.cons (.int 1) .nil))) .nil)) .nil)))))
      (.cons (.asg (.nm 3) (.bop .mul [("Poly", 24)] (.var 3) (.bop .sub [("Poly", 28)] (.var 10) (.var 6))))
      .nil))
/-- fewest_poly -/
def b_15 : Ss := (.cons (.ex (.call 5 (.cons (.var 0) .nil)))
      (.cons (.asg (.tp [7, 8]) (.call 7 (.cons (.var 0) (.cons (.call 8 (.cons (.var 1) .nil)) (.cons (.var 2) .nil)))))
      (.cons (.ex (.call 16 (.cons (.var 0) (.cons (.var 1) .nil))))
      (.cons (.asg (.nm 3) (.cmeth "Poly" "of_number" 18 (.cons (.var 0) (.cons (.var 1) (.cons (.int 1) .nil)))))
      (.cons (.asg (.nm 4) (.bin .mul (.e (.tup (.cons (.int 0) .nil))) (.e (.var 1))))
      (.cons (.for_ (.nm 5) (.rng1 (.var 7)) l_15_0 [5, 9])
      (.cons (.for_ (.nm 6) (.rng1 (.var 8)) l_15_1 [6, 10])
      (.cons (.ret (.var 3))
      .nil))))))))
def f_15 : Fn := ⟨("fewest_poly", none), "fewest_poly", ["prime", "size", "degree"], ["prime", "size", "degree", "told", "zero", "at", "number", "whole", "rest", "top", "linear"], [], b_15⟩
def d_15 : He.DefD := ⟨("fewest_poly", none), "fewest_poly", "fewest_poly", defArgs (top 31), defBody (top 31), defScope (top 31), [], []⟩
/-- whole_table -/
def b_16 : Ss := (.cons (.asg (.nm 2) (.call 17 (.cons (.var 0) (.cons (.var 1) .nil))))
      (.cons (.ife (.cmp .gt (.e (.var 2)) (.e (.int 20000)))
      (.cons (.rse "TooMany" (.int 20000))
      .nil)
      .nil)
      (.cons (.ret (.var 2))
      .nil)))
def f_16 : Fn := ⟨("whole_table", none), "whole_table", ["prime", "size"], ["prime", "size", "many"], [], b_16⟩
def d_16 : He.DefD := ⟨("whole_table", none), "whole_table", "whole_table", defArgs (top 28), defBody (top 28), defScope (top 28), [], []⟩
/-- point_count -/
def b_17 : Ss := (.cons (.ex (.call 5 (.cons (.var 0) .nil)))
      (.cons (.ret (.call 9 (.cons (.var 0) (.cons (.call 8 (.cons (.var 1) .nil)) .nil))))
      .nil))
def f_17 : Fn := ⟨("point_count", none), "point_count", ["prime", "size"], ["prime", "size"], [], b_17⟩
def d_17 : He.DefD := ⟨("point_count", none), "point_count", "point_count", defArgs (top 27), defBody (top 27), defScope (top 27), [], []⟩
/-- Poly.of_number -/
def b_18 : Ss := (.cons (.ex (.call 5 (.cons (.var 1) .nil)))
      (.cons (.ex (.call 8 (.cons (.var 2) .nil)))
      (.cons (.ife (.cmp .eq (.e (.call 19 (.cons (.var 1) (.cons (.var 3) .nil)))) (.e (.int 0)))
      (.cons (.ret (.newv 0 "Poly" 20 (.cons (.var 1) (.cons (.var 2) (.cons (.tup .nil) .nil)))))
      .nil)
      .nil)
      (.cons (.ret (.newv 0 "Poly" 20 (.cons (.var 1) (.cons (.var 2) (.cons (.tup (.cons (.tup (.cons (.bin .mul (.e (.tup (.cons (.int 0) .nil))) (.e (.var 2))) (.cons (.var 3) .nil))) .nil)) .nil)))))
      .nil))))
def f_18 : Fn := ⟨("Poly", some "of_number"), "Poly.of_number", ["cls", "prime", "size", "number"], ["cls", "prime", "size", "number"], [], b_18⟩
def d_18 : He.DefD := ⟨("Poly", some "of_number"), "of_number", "Poly.of_number", defArgs (mth 20 1), defBody (mth 20 1), defScope (mth 20 1), [], []⟩
/-- _need_number -/
def b_19 : Ss := (.cons (.ife (.or (.cons (.not (.e (.e (.call 6 (.cons (.var 1) .nil))))) (.cons (.not (.chn .le .lt (.int 0) (.var 1) (.var 0))) .nil)))
      (.cons (.rse "BadNumber" (.var 1))
      .nil)
      .nil)
      (.cons (.ret (.var 1))
      .nil))
def f_19 : Fn := ⟨("_need_number", none), "_need_number", ["prime", "thing"], ["prime", "thing"], [], b_19⟩
def d_19 : He.DefD := ⟨("_need_number", none), "_need_number", "_need_number", defArgs (top 11), defBody (top 11), defScope (top 11), [], []⟩
/-- Poly.__init__ -/
def b_20 : Ss := (.cons (.setf 0 "prime" (.call 5 (.cons (.var 1) .nil)))
      (.cons (.setf 0 "size" (.call 8 (.cons (.var 2) .nil)))
      (.cons (.setf 0 "terms" (.call 21 (.cons (.var 1) (.cons (.call 22 (.cons (.var 1) (.cons (.var 2) (.cons (.var 3) .nil)))) .nil))))
      .nil)))
def f_20 : Fn := ⟨("Poly", some "__init__"), "Poly.__init__", ["self", "prime", "size", "terms"], ["self", "prime", "size", "terms"], [], b_20⟩
def d_20 : He.DefD := ⟨("Poly", some "__init__"), "__init__", "Poly.__init__", defArgs (mth 20 0), defBody (mth 20 0), defScope (mth 20 0), [], []⟩
/-- _ordered_terms -/
def b_21 : Ss := (.cons (.asg (.nm 2) (.bif .sorted (.cons (.e (.lcd 1 (.nm 3) [("at", 3)] .none (.tup (.cons (.bif .sum (.cons (.e (.var 3)) .nil)) (.cons (.var 3) (.cons (.bin .mod (.e (.idx (.e (.var 1)) (.var 3))) (.e (.var 0))) .nil)))))) .nil)))
      (.cons (.ret (.bif .tuple (.cons (.e (.lc (.tp [4, 3, 5]) [("deg", 4), ("at", 3), ("number", 5)] (.seq (.var 2)) (.some (.cmp .ne (.e (.var 5)) (.e (.int 0)))) (.tup (.cons (.var 3) (.cons (.var 5) .nil))))) .nil)))
      .nil))
def f_21 : Fn := ⟨("_ordered_terms", none), "_ordered_terms", ["prime", "found"], ["prime", "found", "kept", "at", "deg", "number"], [], b_21⟩
def d_21 : He.DefD := ⟨("_ordered_terms", none), "_ordered_terms", "_ordered_terms", defArgs (top 19), defBody (top 19), defScope (top 19), [], []⟩
def l_22_0 : Ss := (.cons (.ife (.or (.cons (.not (.e (.e (.isis (.var 5) [(.bt "list"), (.bt "tuple")])))) (.cons (.cmp .ne (.e (.bif .len (.cons (.e (.var 5)) .nil))) (.e (.int 2))) .nil)))
      (.cons (.rse "BadPoly" (.var 4))
      .nil)
      .nil)
      (.cons (.asg (.nm 6) (.call 23 (.cons (.var 0) (.cons (.var 1) (.cons (.idx (.e (.var 5)) (.int 0)) (.cons (.var 4) .nil))))))
      (.cons (.ife (.or (.cons (.not (.e (.e (.call 6 (.cons (.idx (.e (.var 5)) (.int 1)) .nil))))) (.cons (.not (.chn .lt .lt (.int 0) (.idx (.e (.var 5)) (.int 1)) (.var 0))) (.cons (.cmp .inn (.e (.var 6)) (.sl 3)) .nil))))
      (.cons (.rse "BadPoly" (.var 4))
      .nil)
      .nil)
      (.cons (.seti 3 (.var 6) (.idx (.e (.var 5)) (.int 1)))
      .nil))))
/-- _need_terms -/
def b_22 : Ss := (.cons (.ife (.not (.e (.e (.isis (.var 2) [(.bt "list"), (.bt "tuple")]))))
      (.cons (.rse "BadPoly" (.neg (.int 1)))
      .nil)
      .nil)
      (.cons (.asgO 3 (.dnew true))
      (.cons (.for_ (.tp [4, 5]) (.enum (.var 2)) l_22_0 [4, 5, 6])
      (.cons (.retS 3)
      .nil))))
def f_22 : Fn := ⟨("_need_terms", none), "_need_terms", ["prime", "size", "terms"], ["prime", "size", "terms", "found", "at", "term", "exponents"], [], b_22⟩
def d_22 : He.DefD := ⟨("_need_terms", none), "_need_terms", "_need_terms", defArgs (top 18), defBody (top 18), defScope (top 18), [], []⟩
def l_23_0 : Ss := (.cons (.ife (.or (.cons (.not (.e (.e (.call 6 (.cons (.var 4) .nil))))) (.cons (.not (.chn .le .lt (.int 0) (.var 4) (.var 0))) .nil)))
      (.cons (.rse "BadPoly" (.var 3))
      .nil)
      .nil)
      .nil)
/-- _need_exponents -/
def b_23 : Ss := (.cons (.ife (.or (.cons (.not (.e (.e (.isis (.var 2) [(.bt "list"), (.bt "tuple")])))) (.cons (.cmp .ne (.e (.bif .len (.cons (.e (.var 2)) .nil))) (.e (.var 1))) .nil)))
      (.cons (.rse "BadPoly" (.var 3))
      .nil)
      .nil)
      (.cons (.for_ (.nm 4) (.seq (.var 2)) l_23_0 [4])
      (.cons (.ret (.bif .tuple (.cons (.e (.var 2)) .nil)))
      .nil)))
def f_23 : Fn := ⟨("_need_exponents", none), "_need_exponents", ["prime", "size", "thing", "place"], ["prime", "size", "thing", "place", "k"], [], b_23⟩
def d_23 : He.DefD := ⟨("_need_exponents", none), "_need_exponents", "_need_exponents", defArgs (top 17), defBody (top 17), defScope (top 17), [], []⟩
/-- Poly.__mul__ -/
def b_24 : Ss := (.cons (.ret (.call 25 (.cons (.attr (.e (.var 0)) "prime") (.cons (.attr (.e (.var 0)) "size") (.cons (.attr (.e (.var 0)) "terms") (.cons (.call 27 (.cons (.var 0) (.cons (.var 1) .nil))) .nil))))))
      .nil)
def f_24 : Fn := ⟨("Poly", some "__mul__"), "Poly.__mul__", ["self", "other"], ["self", "other"], [], b_24⟩
def d_24 : He.DefD := ⟨("Poly", some "__mul__"), "__mul__", "Poly.__mul__", defArgs (mth 20 12), defBody (mth 20 12), defScope (mth 20 12), [], []⟩
def l_25_0 : Ss := (.cons (.asg (.nm 9) (.bif .tuple (.cons (.e (.lc (.tp [10, 11]) [("j", 10), ("k", 11)] (.zip (.var 5) (.var 7)) .none (.ife (.cmp .lt (.e (.bin .add (.e (.var 10)) (.e (.var 11)))) (.e (.var 0))) (.bin .add (.e (.var 10)) (.e (.var 11))) (.bin .add (.e (.bin .sub (.e (.bin .add (.e (.var 10)) (.e (.var 11)))) (.e (.var 0)))) (.e (.int 1)))))) .nil)))
      (.cons (.seti 4 (.var 9) (.bin .add (.e (.dget (.sl 4) (.var 9) (.int 0))) (.e (.bin .mul (.e (.var 6)) (.e (.var 8))))))
      .nil))
def l_25_1 : Ss := (.cons (.for_ (.tp [7, 8]) (.seq (.var 3)) l_25_0 [7, 8, 9])
      .nil)
/-- _multiplied -/
def b_25 : Ss := (.cons (.asgO 4 (.dnew true))
      (.cons (.for_ (.tp [5, 6]) (.seq (.var 2)) l_25_1 [5, 6, 7, 8, 9])
      (.cons (.gfz 4)
      (.cons (.ret (.call 26 (.cons (.var 0) (.cons (.var 1) (.cons (.var 4) .nil)))))
      .nil))))
def f_25 : Fn := ⟨("_multiplied", none), "_multiplied", ["prime", "size", "one", "other"], ["prime", "size", "one", "other", "found", "left", "a", "right", "b", "at", "j", "k"], [], b_25⟩
def d_25 : He.DefD := ⟨("_multiplied", none), "_multiplied", "_multiplied", defArgs (top 24), defBody (top 24), defScope (top 24), [], []⟩
/-- _poly_of_dict -/
def b_26 : Ss := (.cons (.asgO 3 (.new "Poly" 20 (.cons (.var 0) (.cons (.var 1) (.cons (.tup .nil) .nil)))))
      (.cons (.setf 3 "terms" (.call 21 (.cons (.var 0) (.cons (.var 2) .nil))))
      (.cons (.retS 3)
      .nil)))
def f_26 : Fn := ⟨("_poly_of_dict", none), "_poly_of_dict", ["prime", "size", "found"], ["prime", "size", "found", "made"], [], b_26⟩
def d_26 : He.DefD := ⟨("_poly_of_dict", none), "_poly_of_dict", "_poly_of_dict", defArgs (top 22), defBody (top 22), defScope (top 22), [], []⟩
/-- _terms_beside -/
def b_27 : Ss := (.cons (.ife (.e (.e (.isi (.var 1) (.own "Poly"))))
      (.cons (.ife (.or (.cons (.cmp .ne (.e (.attr (.e (.var 1)) "prime")) (.e (.attr (.e (.var 0)) "prime"))) (.cons (.cmp .ne (.e (.attr (.e (.var 1)) "size")) (.e (.attr (.e (.var 0)) "size"))) .nil)))
      (.cons (.rse "BadPoly" (.neg (.int 1)))
      .nil)
      .nil)
      (.cons (.ret (.attr (.e (.var 1)) "terms"))
      .nil))
      .nil)
      (.cons (.ife (.cmp .eq (.e (.call 19 (.cons (.attr (.e (.var 0)) "prime") (.cons (.var 1) .nil)))) (.e (.int 0)))
      (.cons (.ret (.tup .nil))
      .nil)
      .nil)
      (.cons (.ret (.tup (.cons (.tup (.cons (.bin .mul (.e (.tup (.cons (.int 0) .nil))) (.e (.attr (.e (.var 0)) "size"))) (.cons (.var 1) .nil))) .nil)))
      .nil)))
def f_27 : Fn := ⟨("_terms_beside", none), "_terms_beside", ["poly", "other"], ["poly", "other"], [], b_27⟩
def d_27 : He.DefD := ⟨("_terms_beside", none), "_terms_beside", "_terms_beside", defArgs (top 21), defBody (top 21), defScope (top 21), [], []⟩
/-- Poly.__sub__ -/
def b_28 : Ss := (.cons (.ret (.call 29 (.cons (.attr (.e (.var 0)) "prime") (.cons (.attr (.e (.var 0)) "size") (.cons (.attr (.e (.var 0)) "terms") (.cons (.call 27 (.cons (.var 0) (.cons (.var 1) .nil))) (.cons (.neg (.int 1)) .nil)))))))
      .nil)
def f_28 : Fn := ⟨("Poly", some "__sub__"), "Poly.__sub__", ["self", "other"], ["self", "other"], [], b_28⟩
def d_28 : He.DefD := ⟨("Poly", some "__sub__"), "__sub__", "Poly.__sub__", defArgs (mth 20 10), defBody (mth 20 10), defScope (mth 20 10), [], []⟩
def l_29_0 : Ss := (.cons (.seti 5 (.var 6) (.bin .add (.e (.dget (.sl 5) (.var 6) (.int 0))) (.e (.bin .mul (.e (.var 4)) (.e (.var 7))))))
      .nil)
/-- _combined -/
def b_29 : Ss := (.cons (.asgO 5 (.dc true (.tp [6, 7]) [("at", 6), ("number", 7)] (.seq (.var 2)) .none (.var 6) (.var 7)))
      (.cons (.for_ (.tp [6, 7]) (.seq (.var 3)) l_29_0 [])
      (.cons (.gfz 5)
      (.cons (.ret (.call 26 (.cons (.var 0) (.cons (.var 1) (.cons (.var 5) .nil)))))
      .nil))))
def f_29 : Fn := ⟨("_combined", none), "_combined", ["prime", "size", "one", "other", "scale"], ["prime", "size", "one", "other", "scale", "found", "at", "number"], [], b_29⟩
def d_29 : He.DefD := ⟨("_combined", none), "_combined", "_combined", defArgs (top 23), defBody (top 23), defScope (top 23), [], []⟩
def l_30_0 : Ss := (.cons (.ife (.or (.cons (.not (.e (.e (.isi (.var 4) (.bt "tuple"))))) (.cons (.cmp .ne (.e (.bif .len (.cons (.e (.var 4)) .nil))) (.e (.int 2))) (.cons (.not (.e (.e (.call 31 (.cons (.idx (.e (.var 4)) (.int 0)) (.cons (.var 1) (.cons (.bin .sub (.e (.var 0)) (.e (.int 1))) .nil))))))) .nil))))
      (.cons (.ret (.bl false))
      .nil)
      .nil)
      (.cons (.ife (.or (.cons (.not (.e (.e (.call 10 (.cons (.idx (.e (.var 4)) (.int 1)) .nil))))) (.cons (.cmp .lt (.e (.idx (.e (.var 4)) (.int 1))) (.e (.int 1))) (.cons (.cmp .ge (.e (.idx (.e (.var 4)) (.int 1))) (.e (.var 0))) (.cons (.cmp .inn (.e (.idx (.e (.var 4)) (.int 0))) (.sl 3)) .nil)))))
      (.cons (.ret (.bl false))
      .nil)
      .nil)
      (.cons (.om 3 .append (.cons (.idx (.e (.var 4)) (.int 0)) .nil))
      .nil)))
/-- _law_terms_right -/
def b_30 : Ss := (.cons (.ife (.not (.e (.e (.isi (.var 2) (.bt "tuple")))))
      (.cons (.ret (.bl false))
      .nil)
      .nil)
      (.cons (.asgO 3 (.lst .nil))
      (.cons (.for_ (.nm 4) (.seq (.var 2)) l_30_0 [4])
      (.cons (.ret (.bl true))
      .nil))))
def f_30 : Fn := ⟨("_law_terms_right", none), "_law_terms_right", ["prime", "size", "terms"], ["prime", "size", "terms", "seen", "term"], [], b_30⟩
def d_30 : He.DefD := ⟨("_law_terms_right", none), "_law_terms_right", "_law_terms_right", defArgs (top 44), defBody (top 44), defScope (top 44), [], []⟩
/-- _law_is_exponents -/
def b_31 : Ss := (.cons (.ife (.or (.cons (.not (.e (.e (.isi (.var 0) (.bt "tuple"))))) (.cons (.cmp .ne (.e (.bif .len (.cons (.e (.var 0)) .nil))) (.e (.var 1))) .nil)))
      (.cons (.ret (.bl false))
      .nil)
      .nil)
      (.cons (.ret (.cmp .eq (.e (.bif .len (.cons (.e (.lc (.nm 3) [("at", 3)] (.seq (.var 0)) (.some (.or (.cons (.not (.e (.e (.call 10 (.cons (.var 3) .nil))))) (.cons (.cmp .lt (.e (.var 3)) (.e (.int 0))) (.cons (.cmp .gt (.e (.var 3)) (.e (.var 2))) .nil))))) (.var 3))) .nil))) (.e (.int 0))))
      .nil))
def f_31 : Fn := ⟨("_law_is_exponents", none), "_law_is_exponents", ["value", "size", "most"], ["value", "size", "most", "at"], [], b_31⟩
def d_31 : He.DefD := ⟨("_law_is_exponents", none), "_law_is_exponents", "_law_is_exponents", defArgs (top 36), defBody (top 36), defScope (top 36), [], []⟩
/-- Poly.degree -/
def b_32 : Ss := (.cons (.ife (.not (.e (.e (.attr (.e (.var 0)) "terms"))))
      (.cons (.ret (.neg (.int 1)))
      .nil)
      .nil)
      (.cons (.ret (.bif .sum (.cons (.e (.idx (.e (.idx (.e (.attr (.e (.var 0)) "terms")) (.neg (.int 1)))) (.int 0))) .nil)))
      .nil))
def f_32 : Fn := ⟨("Poly", some "degree"), "Poly.degree", ["self"], ["self"], [], b_32⟩
def d_32 : He.DefD := ⟨("Poly", some "degree"), "degree", "Poly.degree", defArgs (mth 20 2), defBody (mth 20 2), defScope (mth 20 2), [], []⟩
/-- _law_places -/
def b_33 : Ss := (.cons (.ret (.bif .len (.cons (.e (.lc (.nm 3) [("point", 3)] (.seq (.var 2)) (.some (.cmp .ne (.e (.call 34 (.cons (.var 0) (.cons (.var 1) (.cons (.var 3) .nil))))) (.e (.int 0)))) (.var 3))) .nil)))
      .nil)
def f_33 : Fn := ⟨("_law_places", none), "_law_places", ["prime", "terms", "points"], ["prime", "terms", "points", "point"], [], b_33⟩
def d_33 : He.DefD := ⟨("_law_places", none), "_law_places", "_law_places", defArgs (top 43), defBody (top 43), defScope (top 43), [], []⟩
def l_34_0 : Ss := (.cons (.aug 3 .add (.bin .mul (.e (.var 5)) (.e (.call 35 (.cons (.var 0) (.cons (.var 4) (.cons (.var 2) .nil)))))))
      .nil)
/-- _law_value -/
def b_34 : Ss := (.cons (.asg (.nm 3) (.int 0))
      (.cons (.for_ (.tp [4, 5]) (.seq (.var 1)) l_34_0 [4, 5])
      (.cons (.ret (.bin .mod (.e (.bif .int (.cons (.e (.var 3)) .nil))) (.e (.var 0))))
      .nil)))
def f_34 : Fn := ⟨("_law_value", none), "_law_value", ["prime", "terms", "point"], ["prime", "terms", "point", "total", "exponents", "number"], [], b_34⟩
def d_34 : He.DefD := ⟨("_law_value", none), "_law_value", "_law_value", defArgs (top 42), defBody (top 42), defScope (top 42), [], []⟩
def l_35_0 : Ss := (.cons (.asg (.nm 3) (.bin .mod (.e (.bif .int (.cons (.e (.bin .mul (.e (.var 3)) (.e (.idx (.e (.var 2)) (.var 4))))) .nil))) (.e (.var 0))))
      .nil)
def l_35_1 : Ss := (.cons (.for_ (.nm 5) (.rng1 (.idx (.e (.var 1)) (.var 4))) l_35_0 [5])
      .nil)
/-- _law_monomial_at -/
def b_35 : Ss := (.cons (.asg (.nm 3) (.int 1))
      (.cons (.for_ (.nm 4) (.rng1 (.bif .len (.cons (.e (.var 2)) .nil))) l_35_1 [4, 5])
      (.cons (.ret (.var 3))
      .nil)))
def f_35 : Fn := ⟨("_law_monomial_at", none), "_law_monomial_at", ["prime", "exponents", "point"], ["prime", "exponents", "point", "number", "at", "turn"], [], b_35⟩
def d_35 : He.DefD := ⟨("_law_monomial_at", none), "_law_monomial_at", "_law_monomial_at", defArgs (top 41), defBody (top 41), defScope (top 41), [], []⟩
def l_36_0 : Ss := (.cons (.asg (.nm 10) (.bif .tuple (.cons (.e (.lc (.nm 9) [("at", 9)] (.rng1 (.var 2)) .none (.call 3 (.cons (.var 0) (.cons (.var 1) .nil))))) .nil)))
      (.cons (.ife (.cmp .eq (.e (.bif .len (.cons (.e (.lco 6 (.nm 12) [("term", 12)] (.some (.cmp .eq (.e (.idx (.e (.var 12)) (.int 0))) (.e (.var 10)))) (.var 12))) .nil))) (.e (.int 0)))
      (.cons (.om 6 .append (.cons (.tup (.cons (.var 10) (.cons (.bin .add (.e (.int 1)) (.e (.call 3 (.cons (.var 0) (.cons (.bin .sub (.e (.var 1)) (.e (.int 1))) .nil))))) .nil))) .nil))
      .nil)
      .nil)
      .nil))
def l_36_1 : Ss := (.cons (.asg (.nm 11) (.bif .sum (.cons (.e (.lc (.nm 14) [("place", 14)] (.rng1 (.var 2)) .none (.bin .mul (.e (.idx (.e (.var 7)) (.var 14))) (.e (.idx (.e (.idx (.e (.var 3)) (.var 9))) (.var 14)))))) .nil)))
      (.cons (.seti 4 (.var 9) (.bin .mod (.e (.bif .int (.cons (.e (.bin .mul (.e (.idx (.sl 4) (.var 9))) (.e (.bin .sub (.e (.var 11)) (.e (.var 8)))))) .nil))) (.e (.var 1))))
      .nil))
def l_36_2 : Ss := (.cons (.asg (.nm 7) (.lc (.nm 9) [("at", 9)] (.rng1 (.var 2)) .none (.call 3 (.cons (.var 0) (.cons (.var 1) .nil)))))
      (.cons (.asg (.nm 8) (.call 3 (.cons (.var 0) (.cons (.var 1) .nil))))
      (.cons (.for_ (.nm 9) (.rng1 (.bif .len (.cons (.e (.var 3)) .nil))) l_36_1 [11])
      .nil)))
/-- _law_own -/
def b_36 : Ss := (.cons (.ife (.cmp .ne (.e (.call 3 (.cons (.var 0) (.cons (.int 3) .nil)))) (.e (.int 1)))
      (.cons (.asgO 6 (.lst .nil))
      (.cons (.for_ (.nm 5) (.rng1 (.bin .add (.e (.int 1)) (.e (.call 3 (.cons (.var 0) (.cons (.int 6) .nil)))))) l_36_0 [10])
      (.cons (.gfz 6)
      (.cons (.ret (.lst (.cons (.bif .max (.cons (.e (.lc (.nm 12) [("term", 12)] (.seq (.var 6)) .none (.bif .sum (.cons (.e (.idx (.e (.var 12)) (.int 0))) .nil)))) .nil)) (.cons (.call 33 (.cons (.var 1) (.cons (.var 6) (.cons (.var 3) .nil)))) .nil))))
      .nil))))
      .nil)
      (.cons (.asgO 4 (.bin .mul (.e (.lst (.cons (.int 1) .nil))) (.e (.bif .len (.cons (.e (.var 3)) .nil)))))
      (.cons (.for_ (.nm 5) (.rng1 (.bin .add (.e (.int 1)) (.e (.call 3 (.cons (.var 0) (.cons (.int 6) .nil)))))) l_36_2 [7, 8, 11])
      (.cons (.gfz 4)
      (.cons (.asgO 6 (.call 37 (.cons (.var 1) (.cons (.var 3) (.cons (.var 4) .nil)))))
      (.cons (.ife (.cmp .eq (.e (.bif .len (.cons (.sl 6) .nil))) (.e (.int 0)))
      (.cons (.ret (.lst (.cons (.int 0) (.cons (.bif .len (.cons (.e (.var 3)) .nil)) .nil))))
      .nil)
      .nil)
      (.cons (.gfz 6)
      (.cons (.ret (.lst (.cons (.bif .max (.cons (.e (.lc (.nm 12) [("term", 12)] (.seq (.var 6)) .none (.bif .sum (.cons (.e (.idx (.e (.var 12)) (.int 0))) .nil)))) .nil)) (.cons (.bif .len (.cons (.e (.lc (.nm 13) [("number", 13)] (.seq (.var 4)) (.some (.cmp .ne (.e (.var 13)) (.e (.int 0)))) (.var 13))) .nil)) .nil))))
      .nil))))))))
def f_36 : Fn := ⟨("_law_own", none), "_law_own", ["draws", "prime", "size", "points"], ["draws", "prime", "size", "points", "table", "turn", "terms", "numbers", "less", "at", "exponents", "worth", "term", "number", "place"], [], b_36⟩
def d_36 : He.DefD := ⟨("_law_own", none), "_law_own", "_law_own", defArgs (top 48), defBody (top 48), defScope (top 48), [], []⟩
def l_37_0 : Ss := (.cons (.augs 7 .add (.var 8) (.bin .mul (.e (.idx (.e (.var 4)) (.bin .add (.e (.var 10)) (.e (.bin .mul (.e (.var 11)) (.e (.var 5))))))) (.e (.call 38 (.cons (.var 0) (.cons (.var 9) (.cons (.var 11) .nil)))))))
      .nil)
def l_37_1 : Ss := (.cons (.asg (.nm 9) (.bin .mod (.e (.bif .int (.cons (.e (.bin .fdiv (.e (.var 8)) (.e (.var 5)))) .nil))) (.e (.var 0))))
      (.cons (.asg (.nm 10) (.bin .sub (.e (.var 8)) (.e (.bin .mul (.e (.var 9)) (.e (.var 5))))))
      (.cons (.for_ (.nm 11) (.rng1 (.var 0)) l_37_0 [])
      .nil)))
def l_37_2 : Ss := (.cons (.asg (.nm 5) (.bin .fdiv (.e (.var 5)) (.e (.var 0))))
      (.cons (.asgO 7 (.bin .mul (.e (.lst (.cons (.int 0) .nil))) (.e (.bif .len (.cons (.e (.var 4)) .nil)))))
      (.cons (.for_ (.nm 8) (.rng1 (.bif .len (.cons (.e (.var 4)) .nil))) l_37_1 [8, 9, 10])
      (.cons (.gfz 7)
      (.cons (.asg (.nm 4) (.lc (.nm 11) [("number", 11)] (.seq (.var 7)) .none (.bin .mod (.e (.bif .int (.cons (.e (.var 11)) .nil))) (.e (.var 0)))))
      .nil)))))
/-- _law_terms_of -/
def b_37 : Ss := (.cons (.asg (.nm 3) (.bif .len (.cons (.e (.idx (.e (.var 1)) (.int 0))) .nil)))
      (.cons (.asg (.nm 4) (.bif .list (.cons (.e (.var 2)) .nil)))
      (.cons (.asg (.nm 5) (.bif .len (.cons (.e (.var 1)) .nil)))
      (.cons (.for_ (.nm 6) (.rng1 (.var 3)) l_37_2 [7, 8, 9, 10])
      (.cons (.ret (.lc (.nm 6) [("at", 6)] (.rng1 (.bif .len (.cons (.e (.var 1)) .nil))) (.some (.cmp .ne (.e (.idx (.e (.var 4)) (.var 6))) (.e (.int 0)))) (.tup (.cons (.idx (.e (.var 1)) (.var 6)) (.cons (.idx (.e (.var 4)) (.var 6)) .nil)))))
      .nil)))))
def f_37 : Fn := ⟨("_law_terms_of", none), "_law_terms_of", ["prime", "points", "table"], ["prime", "points", "table", "size", "numbers", "step", "at", "turned", "place", "digit", "first", "number"], [], b_37⟩
def d_37 : He.DefD := ⟨("_law_terms_of", none), "_law_terms_of", "_law_terms_of", defArgs (top 49), defBody (top 49), defScope (top 49), [], []⟩
def l_38_0 : Ss := (.cons (.asg (.nm 3) (.bin .mod (.e (.bif .int (.cons (.e (.bin .mul (.e (.var 3)) (.e (.var 2)))) .nil))) (.e (.var 0))))
      .nil)
/-- _law_weight -/
def b_38 : Ss := (.cons (.ife (.cmp .eq (.e (.var 1)) (.e (.int 0)))
      (.cons (.ret (.bif .int (.cons (.e (.cmp .eq (.e (.var 2)) (.e (.int 0)))) .nil)))
      .nil)
      .nil)
      (.cons (.asg (.nm 3) (.int 1))
      (.cons (.for_ (.nm 4) (.rng1 (.bin .sub (.e (.bin .sub (.e (.var 0)) (.e (.int 1)))) (.e (.var 1)))) l_38_0 [4])
      (.cons (.ret (.neg (.var 3)))
      .nil))))
def f_38 : Fn := ⟨("_law_weight", none), "_law_weight", ["prime", "digit", "number"], ["prime", "digit", "number", "power", "turn"], [], b_38⟩
def d_38 : He.DefD := ⟨("_law_weight", none), "_law_weight", "_law_weight", defArgs (top 50), defBody (top 50), defScope (top 50), [], []⟩
def l_39_0 : Ss := (.cons (.ife (.cmp .ne (.e (.call 40 (.cons (.var 5) (.cons (.var 1) (.cons (.var 2) (.cons (.var 4) .nil)))))) (.e (.lst (.cons (.str "number") (.cons (.var 4) .nil)))))
      (.cons (.ret (.bl false))
      .nil)
      .nil)
      (.cons (.ife (.cmp .ne (.e (.call 40 (.cons (.var 5) (.cons (.var 1) (.cons (.int 91) (.cons (.var 4) .nil)))))) (.e (.lst (.cons (.str "number") (.cons (.int 91) .nil)))))
      (.cons (.ret (.bl false))
      .nil)
      .nil)
      (.cons (.ife (.cmp .ne (.e (.call 40 (.cons (.var 5) (.cons (.int 6) (.cons (.int 91) (.cons (.var 4) .nil)))))) (.e (.lst (.cons (.str "prime") (.cons (.int 6) .nil)))))
      (.cons (.ret (.bl false))
      .nil)
      .nil)
      (.cons (.ife (.cmp .ne (.e (.call 40 (.cons (.var 5) (.cons (.var 1) (.cons (.var 2) (.cons (.var 3) .nil)))))) (.e (.lst (.cons (.str "none") (.cons (.int 0) .nil)))))
      (.cons (.ret (.bl false))
      .nil)
      .nil)
      .nil))))
/-- _law_refusals -/
def b_39 : Ss := (.cons (.asg (.nm 3) (.bin .mul (.e (.var 2)) (.e (.bin .sub (.e (.var 1)) (.e (.int 1))))))
      (.cons (.asg (.nm 4) (.idx (.e (.lst (.cons (.bin .add (.e (.var 3)) (.e (.int 1))) (.cons (.neg (.int 1)) (.cons (.str "0") (.cons .non (.cons (.bin .add (.e (.bin .add (.e (.var 3)) (.e (.int 1)))) (.e (.call 3 (.cons (.var 0) (.cons (.int 30) .nil))))) .nil))))))) (.call 3 (.cons (.var 0) (.cons (.int 5) .nil)))))
      (.cons (.for_ (.nm 5) (.rng1 (.int 2)) l_39_0 [5])
      (.cons (.asg (.nm 6) (.call 3 (.cons (.var 0) (.cons (.int 3) .nil))))
      (.cons (.ife (.cmp .ne (.e (.call 40 (.cons (.int 0) (.cons (.int 2) (.cons (.int 15) (.cons (.var 6) .nil)))))) (.e (.lst (.cons (.str "none") (.cons (.int 0) .nil)))))
      (.cons (.ret (.bl false))
      .nil)
      .nil)
      (.cons (.ret (.and (.cons (.cmp .eq (.e (.call 40 (.cons (.int 1) (.cons (.int 2) (.cons (.int 15) (.cons (.var 6) .nil)))))) (.e (.lst (.cons (.str "many") (.cons (.int 20000) .nil))))) (.cons (.cmp .eq (.e (.call 40 (.cons (.int 1) (.cons (.int 2) (.cons (.int 14) (.cons (.var 6) .nil)))))) (.e (.lst (.cons (.str "none") (.cons (.int 0) .nil))))) .nil))))
      .nil))))))
def f_39 : Fn := ⟨("_law_refusals", none), "_law_refusals", ["draws", "prime", "size"], ["draws", "prime", "size", "top", "wrong", "word", "low"], [], b_39⟩
def d_39 : He.DefD := ⟨("_law_refusals", none), "_law_refusals", "_law_refusals", defArgs (top 47), defBody (top 47), defScope (top 47), [], []⟩
/-- _law_refused -/
def b_40 : Ss := (.cons (.asgO 4 (.lst (.cons (.str "none") (.cons (.int 0) .nil))))
      (.cons (.try_ (.cons (.ife (.cmp .eq (.e (.var 0)) (.e (.int 0)))
      (.cons (.ex (.call 4 (.cons (.var 1) (.cons (.var 2) (.cons (.var 3) .nil)))))
      .nil)
      (.cons (.ex (.call 15 (.cons (.var 1) (.cons (.var 2) (.cons (.var 3) .nil)))))
      .nil))
      .nil) [⟨"BadPrime", (some 5), (.asgL 4 [.str "prime", .fld "number"])⟩, ⟨"BadNumber", (some 5), (.asgL 4 [.str "number", .fld "thing"])⟩, ⟨"TooMany", (some 5), (.asgL 4 [.str "many", .fld "limit"])⟩, ⟨"FillingError", (some 5), (.asgL 4 [.str "other", .int 0])⟩])
      (.cons (.retS 4)
      .nil)))
def f_40 : Fn := ⟨("_law_refused", none), "_law_refused", ["word", "prime", "size", "degree"], ["word", "prime", "size", "degree", "told", "raised"], [], b_40⟩
def d_40 : He.DefD := ⟨("_law_refused", none), "_law_refused", "_law_refused", defArgs (top 46), defBody (top 46), defScope (top 46), [], []⟩
def G : Prog where
  fns := [f_0, f_1, f_2, f_3, f_4, f_5, f_6, f_7, f_8, f_9, f_10, f_11, f_12, f_13, f_14, f_15, f_16, f_17, f_18, f_19, f_20, f_21, f_22, f_23, f_24, f_25, f_26, f_27, f_28, f_29, f_30, f_31, f_32, f_33, f_34, f_35, f_36, f_37, f_38, f_39, f_40]
  gints := []
  flds := [("Poly", ["prime", "size", "terms"])]
  clss := ["Poly"]
  subs := [((.own "Poly", .own "Poly"), true), ((.bt "int", .own "Poly"), false)]
  news := [("Poly", 20)]
  exs := [("BadPrime", "number"), ("BadNumber", "thing"), ("BadPoly", "place"), ("TooMany", "limit")]
  exm := [(("BadPrime", "BadPrime"), true), (("BadPrime", "BadNumber"), false), (("BadPrime", "TooMany"), false), (("BadPrime", "FillingError"), true), (("BadNumber", "BadPrime"), false), (("BadNumber", "BadNumber"), true), (("BadNumber", "TooMany"), false), (("BadNumber", "FillingError"), true), (("BadPoly", "BadPrime"), false), (("BadPoly", "BadNumber"), false), (("BadPoly", "TooMany"), false), (("BadPoly", "FillingError"), true), (("TooMany", "BadPrime"), false), (("TooMany", "BadNumber"), false), (("TooMany", "TooMany"), true), (("TooMany", "FillingError"), true)]
  mets := []
  cms := [(("Poly", "of_number"), 18)]
  props := [(("Poly", "degree"), 32)]
  ops := [(("Poly", .mul), 24), (("Poly", .sub), 28)]
def x_BadPrime : XD := ⟨"BadPrime", "number", "BadPrime.__init__", "number", mth 3 0⟩
def x_BadNumber : XD := ⟨"BadNumber", "thing", "BadNumber.__init__", "thing", mth 4 0⟩
def x_BadPoly : XD := ⟨"BadPoly", "place", "BadPoly.__init__", "place", mth 5 0⟩
def x_TooMany : XD := ⟨"TooMany", "limit", "TooMany.__init__", "limit", mth 7 0⟩
def xds : List XD := [x_BadPrime, x_BadNumber, x_BadPoly, x_TooMany]
def dfs : List He.DefD := [d_0, d_1, d_2, d_3, d_4, d_5, d_6, d_7, d_8, d_9, d_10, d_11, d_12, d_13, d_14, d_15, d_16, d_17, d_18, d_19, d_20, d_21, d_22, d_23, d_24, d_25, d_26, d_27, d_28, d_29, d_30, d_31, d_32, d_33, d_34, d_35, d_36, d_37, d_38, d_39, d_40]
theorem m_0 : defB G f_0 d_0 = true := by decide +kernel
theorem m_1 : defB G f_1 d_1 = true := by decide +kernel
theorem m_2 : defB G f_2 d_2 = true := by decide +kernel
theorem m_3 : defB G f_3 d_3 = true := by decide +kernel
theorem m_4 : defB G f_4 d_4 = true := by decide +kernel
theorem m_5 : defB G f_5 d_5 = true := by decide +kernel
theorem m_6 : defB G f_6 d_6 = true := by decide +kernel
theorem m_7 : defB G f_7 d_7 = true := by decide +kernel
theorem m_8 : defB G f_8 d_8 = true := by decide +kernel
theorem m_9 : defB G f_9 d_9 = true := by decide +kernel
theorem m_10 : defB G f_10 d_10 = true := by decide +kernel
theorem m_11 : defB G f_11 d_11 = true := by decide +kernel
theorem m_12 : defB G f_12 d_12 = true := by decide +kernel
theorem m_13 : defB G f_13 d_13 = true := by decide +kernel
theorem m_14 : defB G f_14 d_14 = true := by decide +kernel
theorem m_15 : defB G f_15 d_15 = true := by decide +kernel
theorem m_16 : defB G f_16 d_16 = true := by decide +kernel
theorem m_17 : defB G f_17 d_17 = true := by decide +kernel
theorem m_18 : defB G f_18 d_18 = true := by decide +kernel
theorem m_19 : defB G f_19 d_19 = true := by decide +kernel
theorem m_20 : defB G f_20 d_20 = true := by decide +kernel
theorem m_21 : defB G f_21 d_21 = true := by decide +kernel
theorem m_22 : defB G f_22 d_22 = true := by decide +kernel
theorem m_23 : defB G f_23 d_23 = true := by decide +kernel
theorem m_24 : defB G f_24 d_24 = true := by decide +kernel
theorem m_25 : defB G f_25 d_25 = true := by decide +kernel
theorem m_26 : defB G f_26 d_26 = true := by decide +kernel
theorem m_27 : defB G f_27 d_27 = true := by decide +kernel
theorem m_28 : defB G f_28 d_28 = true := by decide +kernel
theorem m_29 : defB G f_29 d_29 = true := by decide +kernel
theorem m_30 : defB G f_30 d_30 = true := by decide +kernel
theorem m_31 : defB G f_31 d_31 = true := by decide +kernel
theorem m_32 : defB G f_32 d_32 = true := by decide +kernel
theorem m_33 : defB G f_33 d_33 = true := by decide +kernel
theorem m_34 : defB G f_34 d_34 = true := by decide +kernel
theorem m_35 : defB G f_35 d_35 = true := by decide +kernel
theorem m_36 : defB G f_36 d_36 = true := by decide +kernel
theorem m_37 : defB G f_37 d_37 = true := by decide +kernel
theorem m_38 : defB G f_38 d_38 = true := by decide +kernel
theorem m_39 : defB G f_39 d_39 = true := by decide +kernel
theorem m_40 : defB G f_40 d_40 = true := by decide +kernel
-- law index 0, law statement 51
def looseNames : List PySem.Str := []
section
def ex (K : PySem.W.Frag) : Bool := true
variable {K : PySem.W.Frag} {mg : Str → Option Value} (c : SaysP ex G dfs K)
include c
theorem fd_0 : FnD G K mg f_0 := fnd_plain (c.def_ 0 (d := d_0) rfl) rfl rfl m_0 fun _ _ _ _ _ _ us hl => match us, hl with | [_], _ => rfl
theorem fd_1 : FnD G K mg f_1 := fnd_plain (c.def_ 1 (d := d_1) rfl) rfl rfl m_1 fun _ _ _ _ _ _ us hl => match us, hl with | [_], _ => rfl
theorem fd_2 : FnD G K mg f_2 := fnd_plain (c.def_ 2 (d := d_2) rfl) rfl rfl m_2 fun _ _ _ _ _ _ us hl => match us, hl with | [_, _], _ => rfl
theorem fd_3 : FnD G K mg f_3 := fnd_plain (c.def_ 3 (d := d_3) rfl) rfl rfl m_3 fun _ _ _ _ _ _ us hl => match us, hl with | [_, _], _ => rfl
theorem fd_4 : FnD G K mg f_4 := fnd_plain (c.def_ 4 (d := d_4) rfl) rfl rfl m_4 fun _ _ _ _ _ _ us hl => match us, hl with | [_, _, _], _ => rfl
theorem fd_5 : FnD G K mg f_5 := fnd_plain (c.def_ 5 (d := d_5) rfl) rfl rfl m_5 fun _ _ _ _ _ _ us hl => match us, hl with | [_], _ => rfl
theorem fd_6 : FnD G K mg f_6 := fnd_plain (c.def_ 6 (d := d_6) rfl) rfl rfl m_6 fun _ _ _ _ _ _ us hl => match us, hl with | [_], _ => rfl
theorem fd_7 : FnD G K mg f_7 := fnd_plain (c.def_ 7 (d := d_7) rfl) rfl rfl m_7 fun _ _ _ _ _ _ us hl => match us, hl with | [_, _, _], _ => rfl
theorem fd_8 : FnD G K mg f_8 := fnd_plain (c.def_ 8 (d := d_8) rfl) rfl rfl m_8 fun _ _ _ _ _ _ us hl => match us, hl with | [_], _ => rfl
theorem fd_9 : FnD G K mg f_9 := fnd_plain (c.def_ 9 (d := d_9) rfl) rfl rfl m_9 fun _ _ _ _ _ _ us hl => match us, hl with | [_, _], _ => rfl
theorem fd_10 : FnD G K mg f_10 := fnd_plain (c.def_ 10 (d := d_10) rfl) rfl rfl m_10 fun _ _ _ _ _ _ us hl => match us, hl with | [_], _ => rfl
theorem fd_11 : FnD G K mg f_11 := fnd_plain (c.def_ 11 (d := d_11) rfl) rfl rfl m_11 fun _ _ _ _ _ _ us hl => match us, hl with | [_, _, _], _ => rfl
theorem fd_12 : FnD G K mg f_12 := fnd_plain (c.def_ 12 (d := d_12) rfl) rfl rfl m_12 fun _ _ _ _ _ _ us hl => match us, hl with | [_, _], _ => rfl
theorem fd_13 : FnD G K mg f_13 := fnd_plain (c.def_ 13 (d := d_13) rfl) rfl rfl m_13 fun _ _ _ _ _ _ us hl => match us, hl with | [_, _], _ => rfl
theorem fd_14 : FnD G K mg f_14 := fnd_plain (c.def_ 14 (d := d_14) rfl) rfl rfl m_14 fun _ _ _ _ _ _ us hl => match us, hl with | [_, _, _, _], _ => rfl
theorem fd_15 : FnD G K mg f_15 := fnd_plain (c.def_ 15 (d := d_15) rfl) rfl rfl m_15 fun _ _ _ _ _ _ us hl => match us, hl with | [_, _, _], _ => rfl
theorem fd_16 : FnD G K mg f_16 := fnd_plain (c.def_ 16 (d := d_16) rfl) rfl rfl m_16 fun _ _ _ _ _ _ us hl => match us, hl with | [_, _], _ => rfl
theorem fd_17 : FnD G K mg f_17 := fnd_plain (c.def_ 17 (d := d_17) rfl) rfl rfl m_17 fun _ _ _ _ _ _ us hl => match us, hl with | [_, _], _ => rfl
theorem fd_18 : FnD G K mg f_18 := fnd_plain (c.def_ 18 (d := d_18) rfl) rfl rfl m_18 fun _ _ _ _ _ _ us hl => match us, hl with | [_, _, _, _], _ => rfl
theorem fd_19 : FnD G K mg f_19 := fnd_plain (c.def_ 19 (d := d_19) rfl) rfl rfl m_19 fun _ _ _ _ _ _ us hl => match us, hl with | [_, _], _ => rfl
theorem fd_20 : FnD G K mg f_20 := fnd_plain (c.def_ 20 (d := d_20) rfl) rfl rfl m_20 fun _ _ _ _ _ _ us hl => match us, hl with | [_, _, _, _], _ => rfl
theorem fd_21 : FnD G K mg f_21 := fnd_plain (c.def_ 21 (d := d_21) rfl) rfl rfl m_21 fun _ _ _ _ _ _ us hl => match us, hl with | [_, _], _ => rfl
theorem fd_22 : FnD G K mg f_22 := fnd_plain (c.def_ 22 (d := d_22) rfl) rfl rfl m_22 fun _ _ _ _ _ _ us hl => match us, hl with | [_, _, _], _ => rfl
theorem fd_23 : FnD G K mg f_23 := fnd_plain (c.def_ 23 (d := d_23) rfl) rfl rfl m_23 fun _ _ _ _ _ _ us hl => match us, hl with | [_, _, _, _], _ => rfl
theorem fd_24 : FnD G K mg f_24 := fnd_plain (c.def_ 24 (d := d_24) rfl) rfl rfl m_24 fun _ _ _ _ _ _ us hl => match us, hl with | [_, _], _ => rfl
theorem fd_25 : FnD G K mg f_25 := fnd_plain (c.def_ 25 (d := d_25) rfl) rfl rfl m_25 fun _ _ _ _ _ _ us hl => match us, hl with | [_, _, _, _], _ => rfl
theorem fd_26 : FnD G K mg f_26 := fnd_plain (c.def_ 26 (d := d_26) rfl) rfl rfl m_26 fun _ _ _ _ _ _ us hl => match us, hl with | [_, _, _], _ => rfl
theorem fd_27 : FnD G K mg f_27 := fnd_plain (c.def_ 27 (d := d_27) rfl) rfl rfl m_27 fun _ _ _ _ _ _ us hl => match us, hl with | [_, _], _ => rfl
theorem fd_28 : FnD G K mg f_28 := fnd_plain (c.def_ 28 (d := d_28) rfl) rfl rfl m_28 fun _ _ _ _ _ _ us hl => match us, hl with | [_, _], _ => rfl
theorem fd_29 : FnD G K mg f_29 := fnd_plain (c.def_ 29 (d := d_29) rfl) rfl rfl m_29 fun _ _ _ _ _ _ us hl => match us, hl with | [_, _, _, _, _], _ => rfl
theorem fd_30 : FnD G K mg f_30 := fnd_plain (c.def_ 30 (d := d_30) rfl) rfl rfl m_30 fun _ _ _ _ _ _ us hl => match us, hl with | [_, _, _], _ => rfl
theorem fd_31 : FnD G K mg f_31 := fnd_plain (c.def_ 31 (d := d_31) rfl) rfl rfl m_31 fun _ _ _ _ _ _ us hl => match us, hl with | [_, _, _], _ => rfl
theorem fd_32 : FnD G K mg f_32 := fnd_plain (c.def_ 32 (d := d_32) rfl) rfl rfl m_32 fun _ _ _ _ _ _ us hl => match us, hl with | [_], _ => rfl
theorem fd_33 : FnD G K mg f_33 := fnd_plain (c.def_ 33 (d := d_33) rfl) rfl rfl m_33 fun _ _ _ _ _ _ us hl => match us, hl with | [_, _, _], _ => rfl
theorem fd_34 : FnD G K mg f_34 := fnd_plain (c.def_ 34 (d := d_34) rfl) rfl rfl m_34 fun _ _ _ _ _ _ us hl => match us, hl with | [_, _, _], _ => rfl
theorem fd_35 : FnD G K mg f_35 := fnd_plain (c.def_ 35 (d := d_35) rfl) rfl rfl m_35 fun _ _ _ _ _ _ us hl => match us, hl with | [_, _, _], _ => rfl
theorem fd_36 : FnD G K mg f_36 := fnd_plain (c.def_ 36 (d := d_36) rfl) rfl rfl m_36 fun _ _ _ _ _ _ us hl => match us, hl with | [_, _, _, _], _ => rfl
theorem fd_37 : FnD G K mg f_37 := fnd_plain (c.def_ 37 (d := d_37) rfl) rfl rfl m_37 fun _ _ _ _ _ _ us hl => match us, hl with | [_, _, _], _ => rfl
theorem fd_38 : FnD G K mg f_38 := fnd_plain (c.def_ 38 (d := d_38) rfl) rfl rfl m_38 fun _ _ _ _ _ _ us hl => match us, hl with | [_, _, _], _ => rfl
theorem fd_39 : FnD G K mg f_39 := fnd_plain (c.def_ 39 (d := d_39) rfl) rfl rfl m_39 fun _ _ _ _ _ _ us hl => match us, hl with | [_, _, _], _ => rfl
theorem fd_40 : FnD G K mg f_40 := fnd_plain (c.def_ 40 (d := d_40) rfl) rfl rfl m_40 fun _ _ _ _ _ _ us hl => match us, hl with | [_, _, _, _], _ => rfl
theorem fd_all : ∀ f ∈ G.fns, FnD G K mg f := by
  intro f hf
  have hf : f ∈ [f_0, f_1, f_2, f_3, f_4, f_5, f_6, f_7, f_8, f_9, f_10, f_11, f_12, f_13, f_14, f_15, f_16, f_17, f_18, f_19, f_20, f_21, f_22, f_23, f_24, f_25, f_26, f_27, f_28, f_29, f_30, f_31, f_32, f_33, f_34, f_35, f_36, f_37, f_38, f_39, f_40] := hf
  simp only [List.mem_cons, List.not_mem_nil, or_false] at hf
  rcases hf with rfl | rfl | rfl | rfl | rfl | rfl | rfl | rfl | rfl | rfl | rfl | rfl | rfl | rfl | rfl | rfl | rfl | rfl | rfl | rfl | rfl | rfl | rfl | rfl | rfl | rfl | rfl | rfl | rfl | rfl | rfl | rfl | rfl | rfl | rfl | rfl | rfl | rfl | rfl | rfl | rfl
  · exact fd_0 c
  · exact fd_1 c
  · exact fd_2 c
  · exact fd_3 c
  · exact fd_4 c
  · exact fd_5 c
  · exact fd_6 c
  · exact fd_7 c
  · exact fd_8 c
  · exact fd_9 c
  · exact fd_10 c
  · exact fd_11 c
  · exact fd_12 c
  · exact fd_13 c
  · exact fd_14 c
  · exact fd_15 c
  · exact fd_16 c
  · exact fd_17 c
  · exact fd_18 c
  · exact fd_19 c
  · exact fd_20 c
  · exact fd_21 c
  · exact fd_22 c
  · exact fd_23 c
  · exact fd_24 c
  · exact fd_25 c
  · exact fd_26 c
  · exact fd_27 c
  · exact fd_28 c
  · exact fd_29 c
  · exact fd_30 c
  · exact fd_31 c
  · exact fd_32 c
  · exact fd_33 c
  · exact fd_34 c
  · exact fd_35 c
  · exact fd_36 c
  · exact fd_37 c
  · exact fd_38 c
  · exact fd_39 c
  · exact fd_40 c
end
end K04
end

section
set_option Elab.async false
set_option linter.all false
set_option maxRecDepth 100000
set_option maxHeartbeats 0
namespace K04
open PySem PySem.Spec PyProof.Rows L2 Dp
abbrev RO : PySem.W.OpenRow := PySem.W.OpenLaw.row PySem.Challenge.rw_onlyfilling_k04_fewest_points
abbrev fil : PySem.Str := PySem.Challenge.pw_onlyfilling_k04_fewest_points.main.file
abbrev hk : PySem.W.Hook := hookX 6 ex G dfs fil xds
def ob (s : PySem.W.SharedT) : AlX := obsXG 6 ex G dfs fil xds (HandSHeadRun.getT s)
theorem ob_eq (s : PySem.W.SharedT) : ob s = hk.obs s.abs := obsXG_eq (HandSHeadRun.getT_eq s)
def loose1 : List PySem.Str := ["_wall", "FillingError", "BadPrime", "BadNumber", "BadPoly", "BadPoint", "TooMany", "_is_integer", "check_prime", "_need_number", "_need_size", "_whole_power", "_need_point", "_need_exponents", "_need_terms", "_ordered_terms", "Poly", "_terms_beside", "_poly_of_dict", "_combined", "_multiplied", "_value_at", "point_count", "whole_table", "_parted", "fewest_points", "fewest_poly"]
def loose2 : List PySem.Str := ["_law_draws", "_law_take", "_law_plain", "_law_is_exponents", "_law_prime", "_law_power", "_law_points", "_law_fewest", "_law_monomial_at", "_law_value", "_law_places", "_law_terms_right", "_law_shown", "_law_refused", "_law_refusals", "_law_own", "_law_terms_of", "_law_weight"]
theorem run (w : World) : HandSHeadRun.RunEq RO (PySem.W.view RO.prog [51]) hk ob 4000 (loose1 ++ loose2) w := by
  intro os
  kernel_rfl
end K04
end

section
set_option Elab.async false
set_option linter.all false
set_option maxRecDepth 100000
set_option maxHeartbeats 4000000
namespace K04
open PySem PySem.Spec PyProof.Rows Dp
theorem callN_eq {n k : Nat} {ds : List D} {m : Mu} (f : Fn) (h : G.fns[k]? = some f) (hl : (fill f ds).length = f.ps.length) : callN G (n + 1) k ds m = (evSs G (callN G n) f.body (start0 f (fill f ds)) m).back := by
  show (match G.fns[k]? with
    | some f => if (fill f ds).length = f.ps.length then (evSs G (callN G n) f.body (start0 f (fill f ds)) m).back else .bad
    | none => .bad) = _
  rw [h]
  dsimp only
  rw [if_pos hl]
theorem o_0 (n : Nat) (a0 : D) (m : Mu) : callN G (n + 1) 0 [a0] m = (evSs G (callN G n) b_0 [some (.val a0), none, none, none, none, none, none, none, none, none] m).back := by
  rw [callN_eq f_0 rfl rfl]
  rfl
theorem o_1 (n : Nat) (a0 : D) (m : Mu) : callN G (n + 1) 1 [a0] m = (evSs G (callN G n) b_1 [some (.val a0), none, none, none, none, none] m).back := by
  rw [callN_eq f_1 rfl rfl]
  rfl
theorem o_2 (n : Nat) (a0 a1 : D) (m : Mu) : callN G (n + 1) 2 [a0, a1] m = (evSs G (callN G n) b_2 [some (.val a0), some (.val a1), none, none] m).back := by
  rw [callN_eq f_2 rfl rfl]
  rfl
theorem o_3 (n : Nat) (a0 a1 : D) (m : Mu) : callN G (n + 1) 3 [a0, a1] m = (evSs G (callN G n) b_3 [some (.val a0), some (.val a1)] m).back := by
  rw [callN_eq f_3 rfl rfl]
  rfl
theorem o_4 (n : Nat) (a0 a1 a2 : D) (m : Mu) : callN G (n + 1) 4 [a0, a1, a2] m = (evSs G (callN G n) b_4 [some (.val a0), some (.val a1), some (.val a2), none, none] m).back := by
  rw [callN_eq f_4 rfl rfl]
  rfl
theorem o_5 (n : Nat) (a0 : D) (m : Mu) : callN G (n + 1) 5 [a0] m = (evSs G (callN G n) b_5 [some (.val a0)] m).back := by
  rw [callN_eq f_5 rfl rfl]
  rfl
theorem o_6 (n : Nat) (a0 : D) (m : Mu) : callN G (n + 1) 6 [a0] m = (evSs G (callN G n) b_6 [some (.val a0)] m).back := by
  rw [callN_eq f_6 rfl rfl]
  rfl
theorem o_7 (n : Nat) (a0 a1 a2 : D) (m : Mu) : callN G (n + 1) 7 [a0, a1, a2] m = (evSs G (callN G n) b_7 [some (.val a0), some (.val a1), some (.val a2)] m).back := by
  rw [callN_eq f_7 rfl rfl]
  rfl
theorem o_8 (n : Nat) (a0 : D) (m : Mu) : callN G (n + 1) 8 [a0] m = (evSs G (callN G n) b_8 [some (.val a0)] m).back := by
  rw [callN_eq f_8 rfl rfl]
  rfl
theorem o_9 (n : Nat) (a0 a1 : D) (m : Mu) : callN G (n + 1) 9 [a0, a1] m = (evSs G (callN G n) b_9 [some (.val a0), some (.val a1), none, none] m).back := by
  rw [callN_eq f_9 rfl rfl]
  rfl
theorem o_10 (n : Nat) (a0 : D) (m : Mu) : callN G (n + 1) 10 [a0] m = (evSs G (callN G n) b_10 [some (.val a0)] m).back := by
  rw [callN_eq f_10 rfl rfl]
  rfl
theorem o_11 (n : Nat) (a0 a1 a2 : D) (m : Mu) : callN G (n + 1) 11 [a0, a1, a2] m = (evSs G (callN G n) b_11 [some (.val a0), some (.val a1), some (.val a2), none, none] m).back := by
  rw [callN_eq f_11 rfl rfl]
  rfl
theorem o_12 (n : Nat) (a0 a1 : D) (m : Mu) : callN G (n + 1) 12 [a0, a1] m = (evSs G (callN G n) b_12 [some (.val a0), some (.val a1), none, none] m).back := by
  rw [callN_eq f_12 rfl rfl]
  rfl
theorem o_13 (n : Nat) (a0 a1 : D) (m : Mu) : callN G (n + 1) 13 [a0, a1] m = (evSs G (callN G n) b_13 [some (.val a0), some (.val a1), none, none, none, none, none] m).back := by
  rw [callN_eq f_13 rfl rfl]
  rfl
theorem o_14 (n : Nat) (a0 a1 a2 a3 : D) (m : Mu) : callN G (n + 1) 14 [a0, a1, a2, a3] m = (evSs G (callN G n) b_14 [some (.val a0), some (.val a1), some (.val a2), some (.val a3), none, none] m).back := by
  rw [callN_eq f_14 rfl rfl]
  rfl
theorem o_15 (n : Nat) (a0 a1 a2 : D) (m : Mu) : callN G (n + 1) 15 [a0, a1, a2] m = (evSs G (callN G n) b_15 [some (.val a0), some (.val a1), some (.val a2), none, none, none, none, none, none, none, none] m).back := by
  rw [callN_eq f_15 rfl rfl]
  rfl
theorem o_16 (n : Nat) (a0 a1 : D) (m : Mu) : callN G (n + 1) 16 [a0, a1] m = (evSs G (callN G n) b_16 [some (.val a0), some (.val a1), none] m).back := by
  rw [callN_eq f_16 rfl rfl]
  rfl
theorem o_17 (n : Nat) (a0 a1 : D) (m : Mu) : callN G (n + 1) 17 [a0, a1] m = (evSs G (callN G n) b_17 [some (.val a0), some (.val a1)] m).back := by
  rw [callN_eq f_17 rfl rfl]
  rfl
theorem o_18 (n : Nat) (a0 a1 a2 a3 : D) (m : Mu) : callN G (n + 1) 18 [a0, a1, a2, a3] m = (evSs G (callN G n) b_18 [some (.val a0), some (.val a1), some (.val a2), some (.val a3)] m).back := by
  rw [callN_eq f_18 rfl rfl]
  rfl
theorem o_19 (n : Nat) (a0 a1 : D) (m : Mu) : callN G (n + 1) 19 [a0, a1] m = (evSs G (callN G n) b_19 [some (.val a0), some (.val a1)] m).back := by
  rw [callN_eq f_19 rfl rfl]
  rfl
theorem o_20 (n : Nat) (a0 a1 a2 a3 : D) (m : Mu) : callN G (n + 1) 20 [a0, a1, a2, a3] m = (evSs G (callN G n) b_20 [some (.val a0), some (.val a1), some (.val a2), some (.val a3)] m).back := by
  rw [callN_eq f_20 rfl rfl]
  rfl
theorem o_21 (n : Nat) (a0 a1 : D) (m : Mu) : callN G (n + 1) 21 [a0, a1] m = (evSs G (callN G n) b_21 [some (.val a0), some (.val a1), none, none, none, none] m).back := by
  rw [callN_eq f_21 rfl rfl]
  rfl
theorem o_22 (n : Nat) (a0 a1 a2 : D) (m : Mu) : callN G (n + 1) 22 [a0, a1, a2] m = (evSs G (callN G n) b_22 [some (.val a0), some (.val a1), some (.val a2), none, none, none, none] m).back := by
  rw [callN_eq f_22 rfl rfl]
  rfl
theorem o_23 (n : Nat) (a0 a1 a2 a3 : D) (m : Mu) : callN G (n + 1) 23 [a0, a1, a2, a3] m = (evSs G (callN G n) b_23 [some (.val a0), some (.val a1), some (.val a2), some (.val a3), none] m).back := by
  rw [callN_eq f_23 rfl rfl]
  rfl
theorem o_24 (n : Nat) (a0 a1 : D) (m : Mu) : callN G (n + 1) 24 [a0, a1] m = (evSs G (callN G n) b_24 [some (.val a0), some (.val a1)] m).back := by
  rw [callN_eq f_24 rfl rfl]
  rfl
theorem o_25 (n : Nat) (a0 a1 a2 a3 : D) (m : Mu) : callN G (n + 1) 25 [a0, a1, a2, a3] m = (evSs G (callN G n) b_25 [some (.val a0), some (.val a1), some (.val a2), some (.val a3), none, none, none, none, none, none, none, none] m).back := by
  rw [callN_eq f_25 rfl rfl]
  rfl
theorem o_26 (n : Nat) (a0 a1 a2 : D) (m : Mu) : callN G (n + 1) 26 [a0, a1, a2] m = (evSs G (callN G n) b_26 [some (.val a0), some (.val a1), some (.val a2), none] m).back := by
  rw [callN_eq f_26 rfl rfl]
  rfl
theorem o_27 (n : Nat) (a0 a1 : D) (m : Mu) : callN G (n + 1) 27 [a0, a1] m = (evSs G (callN G n) b_27 [some (.val a0), some (.val a1)] m).back := by
  rw [callN_eq f_27 rfl rfl]
  rfl
theorem o_28 (n : Nat) (a0 a1 : D) (m : Mu) : callN G (n + 1) 28 [a0, a1] m = (evSs G (callN G n) b_28 [some (.val a0), some (.val a1)] m).back := by
  rw [callN_eq f_28 rfl rfl]
  rfl
theorem o_29 (n : Nat) (a0 a1 a2 a3 a4 : D) (m : Mu) : callN G (n + 1) 29 [a0, a1, a2, a3, a4] m = (evSs G (callN G n) b_29 [some (.val a0), some (.val a1), some (.val a2), some (.val a3), some (.val a4), none, none, none] m).back := by
  rw [callN_eq f_29 rfl rfl]
  rfl
theorem o_30 (n : Nat) (a0 a1 a2 : D) (m : Mu) : callN G (n + 1) 30 [a0, a1, a2] m = (evSs G (callN G n) b_30 [some (.val a0), some (.val a1), some (.val a2), none, none] m).back := by
  rw [callN_eq f_30 rfl rfl]
  rfl
theorem o_31 (n : Nat) (a0 a1 a2 : D) (m : Mu) : callN G (n + 1) 31 [a0, a1, a2] m = (evSs G (callN G n) b_31 [some (.val a0), some (.val a1), some (.val a2), none] m).back := by
  rw [callN_eq f_31 rfl rfl]
  rfl
theorem o_32 (n : Nat) (a0 : D) (m : Mu) : callN G (n + 1) 32 [a0] m = (evSs G (callN G n) b_32 [some (.val a0)] m).back := by
  rw [callN_eq f_32 rfl rfl]
  rfl
theorem o_33 (n : Nat) (a0 a1 a2 : D) (m : Mu) : callN G (n + 1) 33 [a0, a1, a2] m = (evSs G (callN G n) b_33 [some (.val a0), some (.val a1), some (.val a2), none] m).back := by
  rw [callN_eq f_33 rfl rfl]
  rfl
theorem o_34 (n : Nat) (a0 a1 a2 : D) (m : Mu) : callN G (n + 1) 34 [a0, a1, a2] m = (evSs G (callN G n) b_34 [some (.val a0), some (.val a1), some (.val a2), none, none, none] m).back := by
  rw [callN_eq f_34 rfl rfl]
  rfl
theorem o_35 (n : Nat) (a0 a1 a2 : D) (m : Mu) : callN G (n + 1) 35 [a0, a1, a2] m = (evSs G (callN G n) b_35 [some (.val a0), some (.val a1), some (.val a2), none, none, none] m).back := by
  rw [callN_eq f_35 rfl rfl]
  rfl
theorem o_36 (n : Nat) (a0 a1 a2 a3 : D) (m : Mu) : callN G (n + 1) 36 [a0, a1, a2, a3] m = (evSs G (callN G n) b_36 [some (.val a0), some (.val a1), some (.val a2), some (.val a3), none, none, none, none, none, none, none, none, none, none, none] m).back := by
  rw [callN_eq f_36 rfl rfl]
  rfl
theorem o_37 (n : Nat) (a0 a1 a2 : D) (m : Mu) : callN G (n + 1) 37 [a0, a1, a2] m = (evSs G (callN G n) b_37 [some (.val a0), some (.val a1), some (.val a2), none, none, none, none, none, none, none, none, none] m).back := by
  rw [callN_eq f_37 rfl rfl]
  rfl
theorem o_38 (n : Nat) (a0 a1 a2 : D) (m : Mu) : callN G (n + 1) 38 [a0, a1, a2] m = (evSs G (callN G n) b_38 [some (.val a0), some (.val a1), some (.val a2), none, none] m).back := by
  rw [callN_eq f_38 rfl rfl]
  rfl
theorem o_39 (n : Nat) (a0 a1 a2 : D) (m : Mu) : callN G (n + 1) 39 [a0, a1, a2] m = (evSs G (callN G n) b_39 [some (.val a0), some (.val a1), some (.val a2), none, none, none, none] m).back := by
  rw [callN_eq f_39 rfl rfl]
  rfl
theorem o_40 (n : Nat) (a0 a1 a2 a3 : D) (m : Mu) : callN G (n + 1) 40 [a0, a1, a2, a3] m = (evSs G (callN G n) b_40 [some (.val a0), some (.val a1), some (.val a2), some (.val a3), none, none] m).back := by
  rw [callN_eq f_40 rfl rfl]
  rfl
end K04
end

section
set_option Elab.async false
set_option linter.all false
set_option maxRecDepth 100000
set_option maxHeartbeats 4000000
namespace K04
open PySem PySem.Spec PyProof.Rows Dp
/-- a loop's turn -/
noncomputable def bodyF (cf : Nat → List D → Mu → R SV) (t : T) (body : Ss) (d : D) (s1 : Sl) (m2 : Mu) : SR := match bindT s1 t d with | some s2 => evSs G cf body s2 m2 | none => .bad
theorem evS_for {cf : Nat → List D → Mu → R SV} {t : T} {it : I} {body : Ss} {fg : List Nat} {s : Sl} {m : Mu} : evS G cf (.for_ t it body fg) s m = (evI G cf it s m).st s fun ds m1 => forL fg (bodyF cf t body) ds s m1 := by
  rw [evS]
  rfl
/-- a comprehension's turn -/
noncomputable def lcF (cf : Nat → List D → Mu → R SV) (s0 : Sl) (t : T) (c : OB) (e : E) (d : D) (m2 : Mu) : R (Option D) := match bindT s0 t d with
  | some s2 => (evOB G cf c s2 m2).bind fun b m3 => if b = true then (evE G cf e s2 m3).bind fun x m4 => .ok (some x.fz) m4 else .ok none m3
  | none => .bad
theorem evE_lc {cf : Nat → List D → Mu → R SV} {t : T} {own : List (Str × Nat)} {it : I} {c : OB} {e : E} {s : Sl} {m : Mu} : evE G cf (.lc t own it c e) s m = (evI G cf it s m).bind fun ds m1 => (lcL (lcF cf (wipeS s (own.map (·.2))) t c e) ds [] m1).bind fun r m5 => .ok (.own (.lst r)) m5 := by
  rw [evE]
  rfl
theorem evE_lcd {cf : Nat → List D → Mu → R SV} {t : T} {own : List (Str × Nat)} {i : Nat} {c : OB} {e : E} {s : Sl} {m : Mu} : evE G cf (.lcd i t own c e) s m = (match s[i]? with
    | some (some (.val (.dt ks _))) => (lcL (lcF cf (wipeS s (own.map (·.2))) t c e) (ks.map fun k => .tup (k.map kD)) [] m).bind fun r m5 => .ok (.own (.lst r)) m5
    | _ => .bad) := by
  rw [evE]
  rfl
theorem evE_lco {cf : Nat → List D → Mu → R SV} {t : T} {own : List (Str × Nat)} {i : Nat} {c : OB} {e : E} {s : Sl} {m : Mu} : evE G cf (.lco i t own c e) s m = (match s[i]? with
    | some (some (.own (.lst ds))) => (lcL (lcF cf (wipeS s (own.map (·.2))) t c e) ds [] m).bind fun r m5 => .ok (.own (.lst r)) m5
    | _ => .bad) := by
  rw [evE]
  rfl
/-- the turn of a dict comprehension -/
noncomputable def dcT (cf : Nat → List D → Mu → R SV) (s0 : Sl) (t : T) (c : OB) (k v : E) (d : D) (m2 : Mu) : R (Option (D × D)) := match bindT s0 t d with
  | some s2 => (evOB G cf c s2 m2).bind fun b m3 => if b = true then (evE G cf k s2 m3).bind fun x m4 => (evE G cf v s2 m4).bind fun y m5 => .ok (some (x.fz, y.fz)) m5 else .ok none m3
  | none => .bad
theorem evE_dc {cf : Nat → List D → Mu → R SV} {tk : Bool} {t : T} {own : List (Str × Nat)} {it : I} {c : OB} {k v : E} {s : Sl} {m : Mu} : evE G cf (.dc tk t own it c k v) s m = (evI G cf it s m).bind fun ds m1 => (dcL (dcT cf (wipeS s (own.map (·.2))) t c k v) ds (dcE tk) m1).bind fun r m5 => .ok (.own r) m5 := by
  rw [evE]
  rfl
theorem szl {n : Nat} (h : n ≤ 9000) : n ≤ sizeLine := Nat.le_trans h (by decide)
theorem lcL_mapf {α : Type} {F : D → Mu → R (Option D)} {m : Mu} (f g : α → D) : ∀ (xs : List α) (acc : List D), acc.length + xs.length ≤ 9000 → (∀ x ∈ xs, F (f x) m = .ok (some (g x)) m) → lcL F (xs.map f) acc m = .ok (acc ++ xs.map g) m
  | [], acc, _, _ => by simp [lcL]
  | d :: ds, acc, hl, h => by
    rw [List.map_cons]
    unfold lcL
    rw [h d (by simp)]
    simp only [R.bindN_ok]
    have hz : acc.length < sizeLine := szl (n := acc.length + 1) (by simp at hl; omega)
    rw [decide_eq_true hz]
    rw [guard_true, lcL_mapf f g ds (acc ++ [g d]) (by simp at hl ⊢; omega) fun e he => h e (by simp [he])]
    simp
theorem lcL_filterf {α : Type} {F : D → Mu → R (Option D)} {m : Mu} (q : α → Bool) (f g : α → D) : ∀ (xs : List α) (acc : List D), acc.length + xs.length ≤ 9000 → (∀ x ∈ xs, F (f x) m = .ok (if q x = true then some (g x) else none) m) → lcL F (xs.map f) acc m = .ok (acc ++ (xs.filter q).map g) m
  | [], acc, _, _ => by simp [lcL]
  | d :: ds, acc, hl, h => by
    rw [List.map_cons]
    unfold lcL
    rw [h d (by simp)]
    simp only [R.bindN_ok]
    by_cases hq : q d = true
    · rw [if_pos hq]
      dsimp only
      have hz : acc.length < sizeLine := szl (n := acc.length + 1) (by simp at hl; omega)
      rw [decide_eq_true hz]
      rw [guard_true, lcL_filterf q f g ds (acc ++ [g d]) (by simp at hl ⊢; omega) fun e he => h e (by simp [he]), List.filter_cons_of_pos hq]
      simp
    · rw [if_neg hq]
      dsimp only
      rw [lcL_filterf q f g ds acc (by simp at hl; omega) fun e he => h e (by simp [he]), List.filter_cons_of_neg hq]
/-- a loop: the state told by a value -/
theorem forL_runf {α β : Type} {fg : List Nat} {F : D → Sl → Mu → SR} {m : Mu} (f : α → D) (st : β → Sl) (step : β → α → β) (I : β → Prop) : ∀ (xs : List α) (b : β), I b → (∀ b x, x ∈ xs → I b → I (step b x) ∧ ∃ s1, F (f x) (st b) m = .nx s1 m ∧ wipeS s1 fg = st (step b x)) → forL fg F (xs.map f) (st b) m = .nx (st (xs.foldl step b)) m
  | [], b, _, _ => rfl
  | d :: ds, b, hb, h => by
    obtain ⟨h1, s1, h2, h3⟩ := h b d (by simp) hb
    have ih := forL_runf f st step I ds (step b d) h1 fun b' d' hd => h b' d' (by simp [hd])
    rw [List.map_cons]
    unfold forL
    rw [h2]
    dsimp only
    rw [h3]
    exact ih
theorem forL_ex {α β : Type} {fg : List Nat} {F : D → Sl → Mu → SR} (f : α → D) (st : β → Sl) (mu : β → Mu) (I : List α → β → Prop) (h : ∀ x xs b, I (x :: xs) b → ∃ b', I xs b' ∧ ∃ s1, F (f x) (st b) (mu b) = .nx s1 (mu b') ∧ wipeS s1 fg = st b') : ∀ (xs : List α) (b : β), I xs b → ∃ b', I [] b' ∧ forL fg F (xs.map f) (st b) (mu b) = .nx (st b') (mu b')
  | [], b, hb => ⟨b, hb, rfl⟩
  | x :: xs, b, hb => by
    obtain ⟨b1, h1, s1, h2, h3⟩ := h x xs b hb
    obtain ⟨b2, h4, h5⟩ := forL_ex f st mu I h xs b1 h1
    refine ⟨b2, h4, ?_⟩
    rw [List.map_cons]
    unfold forL
    rw [h2]
    dsimp only
    rw [h3]
    exact h5
/-- nothing changes -/
theorem forL_con {α : Type} {fg : List Nat} {F : D → Sl → Mu → SR} {m : Mu} (f : α → D) (s : Sl) : ∀ (xs : List α), (∀ x, x ∈ xs → ∃ s1, F (f x) s m = .nx s1 m ∧ wipeS s1 fg = s) → forL fg F (xs.map f) s m = .nx s m
  | [], _ => rfl
  | x :: xs, h => by
    obtain ⟨s1, h1, h2⟩ := h x (by simp)
    rw [List.map_cons]
    unfold forL
    rw [h1]
    dsimp only
    rw [h2]
    exact forL_con f s xs fun y hy => h y (by simp [hy])
/-- a loop that goes on over the first ones and ends at one -/
theorem forL_stop {α β : Type} {fg : List Nat} {F : D → Sl → Mu → SR} {m : Mu} (f : α → D) (st : β → Sl) (I : β → Prop) (x : D) (post : List D) (r : SR) (hr : ∀ b, I b → F x (st b) m = r) (hx : (∃ v m1, r = .rt v m1) ∨ ∃ e s1 m1, r = .ex e s1 m1) : ∀ (pre : List α) (b : β), I b → (∀ b y, y ∈ pre → I b → ∃ b', I b' ∧ ∃ s1, F (f y) (st b) m = .nx s1 m ∧ wipeS s1 fg = st b') → forL fg F (pre.map f ++ x :: post) (st b) m = r
  | [], b, hb, _ => by
    show forL fg F (x :: post) (st b) m = r
    unfold forL
    rw [hr b hb]
    rcases hx with ⟨v, m1, rfl⟩ | ⟨e, s1, m1, rfl⟩ <;> rfl
  | y :: pre, b, hb, h => by
    obtain ⟨b1, h1, s1, h2, h3⟩ := h b y (by simp) hb
    rw [List.map_cons, List.cons_append]
    unfold forL
    rw [h2]
    dsimp only
    rw [h3]
    exact forL_stop f st I x post r hr hx pre b1 h1 fun b z hz => h b z (by simp [hz])
@[simp] theorem st_ex {α : Type} (x : Exn) (m : Mu) (s : Sl) (f : α → Mu → SR) : (R.ex x m).st s f = .ex x s m := rfl
@[simp] theorem bd_ex {α β : Type} (x : Exn) (m : Mu) (f : α → Mu → R β) : (R.ex x m : R α).bind f = .ex x m := rfl
@[simp] theorem then_ex (x : Exn) (s : Sl) (m : Mu) (f : Sl → Mu → SR) : (SR.ex x s m).then_ f = .ex x s m := rfl
@[simp] theorem back_ex (x : Exn) (s : Sl) (m : Mu) : (SR.ex x s m).back = .ex x m := rfl
@[simp] theorem see_non (m : Mu) : seeD m .non = .non := rfl
@[simp] theorem see_str (m : Mu) (x : Str) : seeD m (.str x) = .str x := rfl
@[simp] theorem see_dt (m : Mu) (k : List (List L2.Key)) (i : List D) : seeD m (.dt k i) = .dt k i := rfl
@[simp] theorem see_cl (m : Mu) (x : Str) : seeD m (.cl x) = .cl x := rfl
@[simp] theorem isd_dk (ks : List L2.Key) (ds : List D) : isDct (.dk ks ds) = true := rfl
@[simp] theorem isd_dt (ks : List (List L2.Key)) (ds : List D) : isDct (.dt ks ds) = true := rfl
/-- the entry at a place -/
def ga (l : List Int) (i : Nat) : Int := l.getD i 0
theorem ix_pt {l : List Int} {i : Nat} {m : Mu} (h : i < l.length) : opIx (pt l) (.int (i : Nat)) m = .ok (.val (.int (ga l i))) m := ix_tup (by omega) (by simp [h, ga])
theorem ix_ls {l : List Int} {i : Nat} {m : Mu} (h : i < l.length) : opIx (.lst (l.map .int)) (.int (i : Nat)) m = .ok (.val (.int (ga l i))) m := ix_lst (by omega) (by simp [h, ga])
theorem lx1 : List.lookup ("BadPrime" : Str) G.exs = some "number" := rfl
theorem lx2 : List.lookup ("BadNumber" : Str) G.exs = some "thing" := rfl
theorem lx3 : List.lookup ("TooMany" : Str) G.exs = some "limit" := rfl
theorem lx4 : List.lookup ("BadPoly" : Str) G.exs = some "place" := rfl
abbrev eBP (d : D) : Exn := ⟨"BadPrime", ["number"], [d]⟩
abbrev eBN (d : D) : Exn := ⟨"BadNumber", ["thing"], [d]⟩
abbrev eTM (i : Int) : Exn := ⟨"TooMany", ["limit"], [.int i]⟩
theorem isis_tup (ds : List D) : isTyA G.subs (.tup ds) [.bt "list", .bt "tuple"] = some true := rfl
theorem isis_lst (ds : List D) : isTyA G.subs (.lst ds) [.bt "list", .bt "tuple"] = some true := rfl
/-- the primes -/
def Pr (p : Int) : Prop := p = 2 ∨ p = 3 ∨ p = 5 ∨ p = 7 ∨ p = 11 ∨ p = 13
theorem Pr.pos {p : Int} (h : Pr p) : 2 ≤ p ∧ p ≤ 13 := by
  rcases h with rfl | rfl | rfl | rfl | rfl | rfl <;> decide
/-! ### the small ones -/
theorem c_6 (n : Nat) (i : Int) (m : Mu) : callN G (n + 1) 6 [.int i] m = .ok (.val (.bl true)) m := by rfl
theorem c_6s (n : Nat) (i : Str) (m : Mu) : callN G (n + 1) 6 [.str i] m = .ok (.val (.bl false)) m := by rfl
theorem c_6n (n : Nat) (m : Mu) : callN G (n + 1) 6 [.non] m = .ok (.val (.bl false)) m := by rfl
theorem c_10 (n : Nat) (i : Int) (m : Mu) : callN G (n + 1) 10 [.int i] m = .ok (.val (.bl true)) m := by rfl
theorem c_5 (n : Nat) (p : Int) (m : Mu) (h : Pr p) : callN G (n + 2) 5 [.int p] m = .ok (.val (.int p)) m := by
  rcases h with rfl | rfl | rfl | rfl | rfl | rfl <;> rfl
theorem c_5x (n : Nat) (m : Mu) : callN G (n + 2) 5 [.int 6] m = .ex (eBP (.int 6)) m := by rfl
theorem c_8 (n : Nat) (s : Int) (m : Mu) (h : 0 ≤ s ∧ s ≤ 90) : callN G (n + 2) 8 [.int s] m = .ok (.val (.int s)) m := by
  have c := c_6 n s m
  have h1 : decide (0 ≤ s) = true := decide_eq_true h.1
  have h2 : decide (s ≤ 90) = true := decide_eq_true h.2
  rw [o_8]
  simp -implicitDefEqProofs [↓evS_for, ↓evE_lc, ↓evE_lcd, ↓evE_lco, ↓evE_dc, evSs, evS, evE, evEs, evP, evPs, evI, evB, evBor, evBand, evO, evOB, evAnd, bindT, wipeS, b_8, c, h.1, h.2]
theorem c_8x (n : Nat) (m : Mu) : callN G (n + 2) 8 [.int 91] m = .ex (eBN (.int 91)) m := by rfl
def powI (b : Int) : Nat → Int
  | 0 => 1
  | k + 1 => powI b k * b
theorem powI_fold (b : Int) : ∀ k : Nat, (List.range k).foldl (fun t (_ : Nat) => t * b) 1 = powI b k
  | 0 => rfl
  | k + 1 => by
    rw [List.range_succ, List.foldl_append, powI_fold b k]
    rfl
theorem c_9 (n : Nat) (b : Int) (hb : 0 ≤ b ∧ b ≤ 1000) (k : Nat) (hk : k ≤ 1000) (m : Mu) : callN G (n + 1) 9 [.int b, .int (k : Nat)] m = .ok (.val (.int (powI b k))) m := by
  have key := forL_runf (m := m) (fg := [3]) (F := bodyF (callN G n) (.nm 3) l_9_0) (fun i : Nat => D.int (i : Nat)) (fun t : Int => [some (.val (.int b)), some (.val (.int (k : Nat))), some (.val (.int t)), none]) (fun t _ => t * b) (fun _ => True) (List.range k) 1 trivial (fun t x _ _ => by
    have bm := b_mulS (i := t) (j := b) (m := m) (by omega) (by omega)
    exact ⟨trivial, [some (.val (.int b)), some (.val (.int (k : Nat))), some (.val (.int (t * b))), some (.val (.int (x : Nat)))], (by simp -implicitDefEqProofs [↓evS_for, ↓evE_lc, ↓evE_lcd, ↓evE_lco, ↓evE_dc, evSs, evS, evE, evEs, evP, evPs, evI, evB, evBor, evBand, evO, evOB, evAnd, bindT, wipeS, bodyF, l_9_0, bm]), rfl⟩)
  rw [powI_fold] at key
  have r := r62_nat hk
  rw [o_9]
  simp -implicitDefEqProofs [↓evS_for, ↓evE_lc, ↓evE_lcd, ↓evE_lco, ↓evE_dc, evSs, evS, evE, evEs, evP, evPs, evI, evB, evBor, evBand, evO, evOB, evAnd, bindT, wipeS, b_9, r, key]
theorem c_12 (n : Nat) (b : Int) (hb : 0 ≤ b ∧ b ≤ 1000) (k : Nat) (hk : k ≤ 1000) (m : Mu) : callN G (n + 1) 12 [.int b, .int (k : Nat)] m = .ok (.val (.int (powI b k))) m := by
  have key := forL_runf (m := m) (fg := [3]) (F := bodyF (callN G n) (.nm 3) l_12_0) (fun i : Nat => D.int (i : Nat)) (fun t : Int => [some (.val (.int b)), some (.val (.int (k : Nat))), some (.val (.int t)), none]) (fun t _ => t * b) (fun _ => True) (List.range k) 1 trivial (fun t x _ _ => by
    have bm := b_mulS (i := t) (j := b) (m := m) (by omega) (by omega)
    exact ⟨trivial, [some (.val (.int b)), some (.val (.int (k : Nat))), some (.val (.int (t * b))), some (.val (.int (x : Nat)))], (by simp -implicitDefEqProofs [↓evS_for, ↓evE_lc, ↓evE_lcd, ↓evE_lco, ↓evE_dc, evSs, evS, evE, evEs, evP, evPs, evI, evB, evBor, evBand, evO, evOB, evAnd, bindT, wipeS, bodyF, l_12_0, bm]), rfl⟩)
  rw [powI_fold] at key
  have r := r62_nat hk
  rw [o_12]
  simp -implicitDefEqProofs [↓evS_for, ↓evE_lc, ↓evE_lcd, ↓evE_lco, ↓evE_dc, evSs, evS, evE, evEs, evP, evPs, evI, evB, evBor, evBand, evO, evOB, evAnd, bindT, wipeS, b_12, r, key]
end K04
end

section
set_option Elab.async false
set_option linter.all false
set_option maxRecDepth 100000
set_option maxHeartbeats 4000000
namespace K04
open PySem PySem.Spec PyProof.Rows Dp
/-! ### the fewest points -/
theorem f_divmod (i j : Int) (h : 0 < j) (h2 : j < 1073741824) (m : Mu) : opF .divmod [.int i, .int j] m = .ok (.val (.tup [.int (i / j), .int (i % j)])) m := by
  show guardR (decide (0 < j) && decide (j < 1073741824)) _ = _
  rw [decide_eq_true h, decide_eq_true h2]
  rfl
theorem c_7 (n : Nat) (p : Int) (hp : Pr p) (s d : Int) (hd : 0 ≤ d ∧ d ≤ s * (p - 1)) (m : Mu) : callN G (n + 2) 7 [.int p, .int s, .int d] m = .ok (.val (.tup [.int (d / (p - 1)), .int (d % (p - 1))])) m := by
  have hq := hp.pos
  have c := c_6 n d m
  have bm := b_mulS (i := s) (j := p - 1) (m := m) (by omega) (by omega)
  have fd := f_divmod d (p - 1) (by omega) (by omega) m
  rw [o_7]
  simp -implicitDefEqProofs [↓evS_for, ↓evE_lc, ↓evE_lcd, ↓evE_lco, ↓evE_dc, evSs, evS, evE, evEs, evP, evPs, evI, evB, evBor, evBand, evO, evOB, evAnd, bindT, wipeS, b_7, c, hd.1, hd.2, bm, fd]
/-- what is no degree -/
def Wr (p s : Int) (d : D) : Prop := d = .non ∨ d = .str "0" ∨ ∃ i, d = .int i ∧ (i < 0 ∨ s * (p - 1) < i)
theorem c_7x (n : Nat) (p : Int) (hp : Pr p) (s : Int) (d : D) (hd : Wr p s d) (m : Mu) : callN G (n + 2) 7 [.int p, .int s, d] m = .ex (eBN d) m := by
  have hq := hp.pos
  rw [o_7]
  rcases hd with rfl | rfl | ⟨i, rfl, h⟩
  · have c := c_6n n m
    simp -implicitDefEqProofs [↓evS_for, ↓evE_lc, ↓evE_lcd, ↓evE_lco, ↓evE_dc, evSs, evS, evE, evEs, evP, evPs, evI, evB, evBor, evBand, evO, evOB, evAnd, bindT, wipeS, b_7, c, lx2]
  · have c := c_6s n "0" m
    simp -implicitDefEqProofs [↓evS_for, ↓evE_lc, ↓evE_lcd, ↓evE_lco, ↓evE_dc, evSs, evS, evE, evEs, evP, evPs, evI, evB, evBor, evBand, evO, evOB, evAnd, bindT, wipeS, b_7, c, lx2]
  · have c := c_6 n i m
    have bm := b_mulS (i := s) (j := p - 1) (m := m) (by omega) (by omega)
    by_cases h0 : 0 ≤ i
    · have h1 : ¬ (i ≤ s * (p - 1)) := by omega
      simp -implicitDefEqProofs [↓evS_for, ↓evE_lc, ↓evE_lcd, ↓evE_lco, ↓evE_dc, evSs, evS, evE, evEs, evP, evPs, evI, evB, evBor, evBand, evO, evOB, evAnd, bindT, wipeS, b_7, c, bm, h0, h1, lx2]
    · simp -implicitDefEqProofs [↓evS_for, ↓evE_lc, ↓evE_lcd, ↓evE_lco, ↓evE_dc, evSs, evS, evE, evEs, evP, evPs, evI, evB, evBor, evBand, evO, evOB, evAnd, bindT, wipeS, b_7, c, bm, h0, lx2]
def fewI (p s d : Int) : Int := if d / (p - 1) = s then 1 else (p - d % (p - 1)) * powI p (s - d / (p - 1) - 1).toNat
theorem div_le {p s d : Int} (hp : Pr p) (hd : 0 ≤ d ∧ d ≤ s * (p - 1)) : 0 ≤ d / (p - 1) ∧ d / (p - 1) ≤ s ∧ 0 ≤ d % (p - 1) ∧ d % (p - 1) < p - 1 := by
  have hq := hp.pos
  have hq1 : 0 < p - 1 := by omega
  refine ⟨Int.ediv_nonneg hd.1 (by omega), ?_, Int.emod_nonneg _ (by omega), Int.emod_lt_of_pos _ hq1⟩
  exact Int.le_of_lt_add_one (Int.ediv_lt_of_lt_mul hq1 (by rw [Int.add_mul]; omega))
theorem c_4 (n : Nat) (p : Int) (hp : Pr p) (s d : Int) (hs : 0 ≤ s ∧ s ≤ 90) (hd : 0 ≤ d ∧ d ≤ s * (p - 1)) (m : Mu) : callN G (n + 3) 4 [.int p, .int s, .int d] m = .ok (.val (.int (fewI p s d))) m := by
  have hq := hp.pos
  have c5 := c_5 n p m hp
  have c8 := c_8 n s m hs
  have c7 := c_7 n p hp s d hd m
  obtain ⟨w0, w1, r0, r1⟩ := div_le hp hd
  rw [o_4]
  unfold fewI
  generalize d / (p - 1) = wh at *
  generalize d % (p - 1) = re at *
  by_cases hw : wh = s
  · simp -implicitDefEqProofs [↓evS_for, ↓evE_lc, ↓evE_lcd, ↓evE_lco, ↓evE_dc, evSs, evS, evE, evEs, evP, evPs, evI, evB, evBor, evBand, evO, evOB, evAnd, bindT, wipeS, b_4, c5, c8, c7, hw]
  · obtain ⟨k, hk⟩ : ∃ k : Nat, s - wh - 1 = (k : Int) := ⟨(s - wh - 1).toNat, by omega⟩
    have c9 := c_9 (n + 1) p (by omega) k (by omega) m
    have bm := b_mul (i := p - re) (j := powI p k) (m := m) (.inl ⟨by omega, by omega⟩)
    rw [if_neg hw, hk, Int.toNat_natCast]
    simp -implicitDefEqProofs [↓evS_for, ↓evE_lc, ↓evE_lcd, ↓evE_lco, ↓evE_dc, evSs, evS, evE, evEs, evP, evPs, evI, evB, evBor, evBand, evO, evOB, evAnd, bindT, wipeS, b_4, c5, c8, c7, hw, hk, c9, bm]
theorem c_11 (n : Nat) (p : Int) (hp : Pr p) (s d : Int) (hs : 0 ≤ s ∧ s ≤ 90) (hd : 0 ≤ d ∧ d ≤ s * (p - 1)) (m : Mu) : callN G (n + 2) 11 [.int p, .int s, .int d] m = .ok (.val (.int (fewI p s d))) m := by
  have hq := hp.pos
  obtain ⟨w0, w1, r0, r1⟩ := div_le hp hd
  have b1 := b_fdiv (i := d) (j := p - 1) (m := m) (by omega) (by omega)
  have b2 := b_mulS (i := d / (p - 1)) (j := p - 1) (m := m) (by omega) (by omega)
  have e : d - d / (p - 1) * (p - 1) = d % (p - 1) := by rw [Int.emod_def, Int.mul_comm]
  rw [o_11]
  unfold fewI
  rw [← e] at r0 r1 ⊢
  generalize d / (p - 1) = wh at *
  generalize hre : d - wh * (p - 1) = re at *
  by_cases hw : wh = s
  · subst hw
    simp -implicitDefEqProofs [↓evS_for, ↓evE_lc, ↓evE_lcd, ↓evE_lco, ↓evE_dc, evSs, evS, evE, evEs, evP, evPs, evI, evB, evBor, evBand, evO, evOB, evAnd, bindT, wipeS, b_11, b1, b2]
  · obtain ⟨k, hk⟩ : ∃ k : Nat, s - wh - 1 = (k : Int) := ⟨(s - wh - 1).toNat, by omega⟩
    have c12 := c_12 n p (by omega) k (by omega) m
    have bm := b_mul (i := p - re) (j := powI p k) (m := m) (.inl ⟨by omega, by omega⟩)
    rw [if_neg hw, hk, Int.toNat_natCast]
    simp -implicitDefEqProofs [↓evS_for, ↓evE_lc, ↓evE_lcd, ↓evE_lco, ↓evE_dc, evSs, evS, evE, evEs, evP, evPs, evI, evB, evBor, evBand, evO, evOB, evAnd, bindT, wipeS, b_11, b1, b2, hw, hk, c12, hre, bm]
/-! ### the draws' small ones -/
theorem c_3 (n : Nat) (many : Int) (hm : 0 < many) (ds : List Int) (r : Mu) : ∃ (v : Int) (ds' : List Int), 0 ≤ v ∧ v < many ∧ callN G (n + 1) 3 [.ref 0, .int many] (.lst (ds.map .int) :: r) = .ok (.val (.int v)) (.lst (ds'.map .int) :: r) := by
  rw [o_3]
  rcases List.eq_nil_or_concat ds with rfl | ⟨ds, d, rfl⟩
  · exact ⟨0, [], Int.le_refl _, hm, by simp -implicitDefEqProofs [↓evS_for, ↓evE_lc, ↓evE_lcd, ↓evE_lco, ↓evE_dc, evSs, evS, evE, evEs, evP, evPs, evI, evB, evBor, evBand, evO, evOB, evAnd, bindT, wipeS, b_3, seeD]⟩
  · have h0 : ((ds.length : Int) + 1 = 0) = False := eq_false (by omega)
    exact ⟨d % many, ds, Int.emod_nonneg _ (by omega), Int.emod_lt_of_pos _ hm, by simp -implicitDefEqProofs [↓evS_for, ↓evE_lc, ↓evE_lcd, ↓evE_lco, ↓evE_dc, evSs, evS, evE, evEs, evP, evPs, evI, evB, evBor, evBand, evO, evOB, evAnd, bindT, wipeS, b_3, seeD, b_mod hm, h0]⟩
theorem c_2 (n : Nat) (ds : List Int) (r : Mu) : ∃ (p : Int) (ds' : List Int), Pr p ∧ callN G (n + 2) 2 [.ref 0, .int 13] (.lst (ds.map .int) :: r) = .ok (.val (.int p)) (.lst (ds'.map .int) :: r) := by
  obtain ⟨v, ds', h1, h2, h3⟩ := c_3 n 6 (by decide) ds r
  have hv : v = 0 ∨ v = 1 ∨ v = 2 ∨ v = 3 ∨ v = 4 ∨ v = 5 := by omega
  have z6 : (6 : Nat) ≤ sizeLine := szl (by decide)
  have lk := lcL_filterf (m := .lst (ds.map .int) :: r) (F := lcF (callN G (n + 1)) [some (.val (.ref 0)), some (.val (.int 13)), none, none] (.nm 3) (.some (.cmp .le (.e (.var 3)) (.e (.var 1)))) (.var 3)) (fun x : Int => decide (x ≤ 13)) D.int D.int [3, 2, 5, 7, 11, 13] [] (by decide) (fun x _ => by
    by_cases hx : x ≤ 13 <;> simp -implicitDefEqProofs [↓evS_for, ↓evE_lc, ↓evE_lcd, ↓evE_lco, ↓evE_dc, evSs, evS, evE, evEs, evP, evPs, evI, evB, evBor, evBand, evO, evOB, evAnd, bindT, wipeS, lcF, hx])
  simp only [List.map_cons, List.map_nil, List.nil_append] at lk
  have ef : (([3, 2, 5, 7, 11, 13] : List Int).filter fun x => decide (x ≤ 13)) = [3, 2, 5, 7, 11, 13] := by decide
  rw [ef] at lk
  simp only [List.map_cons, List.map_nil] at lk
  have ix : ∀ q : Int, 0 ≤ q → q < 6 → ∀ m, opIx (.lst [.int 3, .int 2, .int 5, .int 7, .int 11, .int 13]) (.int q) m = .ok (.val (.int (ga [3, 2, 5, 7, 11, 13] q.toNat))) m := fun q q0 q1 m => by
    have : q = 0 ∨ q = 1 ∨ q = 2 ∨ q = 3 ∨ q = 4 ∨ q = 5 := by omega
    rcases this with rfl | rfl | rfl | rfl | rfl | rfl <;> rfl
  refine ⟨ga [3, 2, 5, 7, 11, 13] v.toNat, ds', ?_, ?_⟩
  · rcases hv with rfl | rfl | rfl | rfl | rfl | rfl <;> (unfold Pr; decide)
  · rw [o_2]
    simp -implicitDefEqProofs [↓evS_for, ↓evE_lc, ↓evE_lcd, ↓evE_lco, ↓evE_dc, evSs, evS, evE, evEs, evP, evPs, evI, evB, evBor, evBand, evO, evOB, evAnd, bindT, wipeS, b_2, z6, lk, h3, ix v h1 h2]
end K04
end

section
set_option Elab.async false
set_option linter.all false
/-! Linear algebra over a prime field, rows as functions. -/
namespace La
open Classical
section
variable {p : Nat} [NeZero p]
abbrev Vc (p : Nat) := Nat → Fin p
def zv : Vc p := fun _ => 0
def lin (c : Fin p) (r v : Vc p) : Vc p := fun i => c * r i + v i
/-- every number but 0 has an inverse -/
def Fld (p : Nat) [NeZero p] : Prop := ∀ a : Fin p, a ≠ 0 → ∃ b : Fin p, a * b = 1
def spn : List (Vc p) → Vc p → Prop
  | [], v => v = zv
  | r :: rs, v => ∃ c v', spn rs v' ∧ v = lin c r v'
theorem spn_zero : ∀ rs : List (Vc p), spn rs zv
  | [] => rfl
  | r :: rs => ⟨0, zv, spn_zero rs, by funext i; simp only [lin, zv]; grind⟩
theorem spn_lin {a : Fin p} : ∀ {rs : List (Vc p)} {u v : Vc p}, spn rs u → spn rs v → spn rs (lin a u v)
  | [], u, v, hu, hv => by
    rw [hu, hv]
    show lin a zv zv = zv
    funext i; simp only [lin, zv]; grind
  | r :: rs, u, v, ⟨c, u', h1, e1⟩, ⟨d, v', h2, e2⟩ => ⟨a * c + d, lin a u' v', spn_lin h1 h2, by
    subst e1 e2
    funext i; simp only [lin]; grind⟩
theorem spn_smul {a : Fin p} {rs : List (Vc p)} {u : Vc p} (h : spn rs u) : spn rs (fun i => a * u i) := by
  have := spn_lin (a := a) h (spn_zero rs)
  have e : lin a u zv = fun i => a * u i := by funext i; simp only [lin, zv]; grind
  rw [e] at this
  exact this
theorem spn_tail {r : Vc p} {rs : List (Vc p)} {v : Vc p} (h : spn rs v) : spn (r :: rs) v := ⟨0, v, h, by funext i; simp only [lin]; grind⟩
theorem spn_head (r : Vc p) (rs : List (Vc p)) : spn (r :: rs) r := ⟨1, zv, spn_zero rs, by funext i; simp only [lin, zv]; grind⟩
theorem spn_mem : ∀ {rs : List (Vc p)} {r : Vc p}, r ∈ rs → spn rs r
  | q :: rs, r, h => by
    rcases List.mem_cons.mp h with e | e
    · rw [e]; exact spn_head q rs
    · exact spn_tail (spn_mem e)
theorem spn_le {qs : List (Vc p)} : ∀ {rs : List (Vc p)} {v : Vc p}, (∀ r ∈ rs, spn qs r) → spn rs v → spn qs v
  | [], v, _, h => by rw [h]; exact spn_zero qs
  | r :: rs, v, hq, ⟨c, v', h, e⟩ => by
    subst e
    exact spn_lin (hq r (by simp)) (spn_le (fun q hq' => hq q (by simp [hq'])) h)
/-- the same span -/
def Sm (a b : List (Vc p)) : Prop := ∀ v, spn a v ↔ spn b v
theorem Sm.refl (a : List (Vc p)) : Sm a a := fun _ => Iff.rfl
theorem Sm.symm {a b : List (Vc p)} (h : Sm a b) : Sm b a := fun v => (h v).symm
theorem Sm.trans {a b c : List (Vc p)} (h : Sm a b) (k : Sm b c) : Sm a c := fun v => (h v).trans (k v)
theorem sm_of {a b : List (Vc p)} (h : ∀ r ∈ a, spn b r) (k : ∀ r ∈ b, spn a r) : Sm a b := fun _ => ⟨spn_le h, spn_le k⟩
theorem sm_cons {a b : List (Vc p)} {r : Vc p} (h : Sm a b) : Sm (r :: a) (r :: b) := by
  refine sm_of (fun q hq => ?_) (fun q hq => ?_)
  · rcases List.mem_cons.mp hq with e | e
    · rw [e]; exact spn_head _ _
    · exact spn_tail ((h q).mp (spn_mem e))
  · rcases List.mem_cons.mp hq with e | e
    · rw [e]; exact spn_head _ _
    · exact spn_tail ((h q).mpr (spn_mem e))
theorem sm_in {a : List (Vc p)} {r : Vc p} (h : spn a r) : Sm (r :: a) a := by
  refine sm_of (fun q hq => ?_) (fun q hq => spn_tail (spn_mem hq))
  rcases List.mem_cons.mp hq with e | e
  · rw [e]; exact h
  · exact spn_mem e
theorem sm_swap (a b : Vc p) (rs : List (Vc p)) : Sm (a :: b :: rs) (b :: a :: rs) := by
  refine sm_of (fun q hq => spn_mem ?_) (fun q hq => spn_mem ?_) <;> (simp at hq ⊢; grind)
theorem sm_perm {a b : List (Vc p)} (h : a.Perm b) : Sm a b := sm_of (fun r hr => spn_mem (h.mem_iff.mp hr)) fun r hr => spn_mem (h.mem_iff.mpr hr)

/-! ### leads -/
/-- v's first place that is not 0 is j -/
def Fst (v : Vc p) (j : Nat) : Prop := v j ≠ 0 ∧ ∀ i, i < j → v i = 0
def ld (S : Vc p → Prop) (j : Nat) : Prop := ∃ v, S v ∧ Fst v j
theorem Fst.inj {v : Vc p} {i j : Nat} (h : Fst v i) (k : Fst v j) : i = j := by
  rcases Nat.lt_trichotomy i j with e | e | e
  · exact absurd (k.2 i e) h.1
  · exact e
  · exact absurd (h.2 j e) k.1
noncomputable def dim (w : Nat) (S : Vc p → Prop) : Nat := ((List.range w).filter fun j => decide (ld S j)).length
theorem dim_sm {w : Nat} {a b : List (Vc p)} (h : Sm a b) : dim w (spn a) = dim w (spn b) := by
  have e : spn a = spn b := funext fun v => propext (h v)
  rw [e]
/-- echelon rows with their leads, ascending -/
def Ech : List (Vc p × Nat) → Prop
  | [] => True
  | (r, l) :: rest => Fst r l ∧ (∀ q ∈ rest, l < q.2) ∧ Ech rest
theorem ech_low : ∀ {rl : List (Vc p × Nat)} {l : Nat} {v : Vc p}, Ech rl → (∀ q ∈ rl, l < q.2) → spn (rl.map (·.1)) v → ∀ i, i ≤ l → v i = 0
  | [], l, v, _, _, h, i, _ => by
    have : v = zv := h
    rw [this]
    rfl
  | (r, k) :: rest, l, v, ⟨h1, h2, h3⟩, hl, ⟨c, v', hv, e⟩, i, hi => by
    have hk : l < k := hl (r, k) (by simp)
    have e1 := ech_low h3 (fun q hq => hl q (by simp [hq])) hv i hi
    have e2 := h1.2 i (by omega)
    rw [e]
    show c * r i + v' i = 0
    rw [e1, e2]
    grind
theorem mul_ne (hF : Fld p) {a b : Fin p} (ha : a ≠ 0) (hb : b ≠ 0) : a * b ≠ 0 := by
  intro h
  obtain ⟨c, hc⟩ := hF a ha
  apply hb
  grind
theorem ech_ld (hF : Fld p) : ∀ {rl : List (Vc p × Nat)} {j : Nat}, Ech rl → (ld (spn (rl.map (·.1))) j ↔ j ∈ rl.map (·.2))
  | [], j, _ => by
    constructor
    · rintro ⟨v, hv, h, _⟩
      have : v = zv := hv
      rw [this] at h
      exact absurd rfl h
    · intro h
      simp at h
  | (r, l) :: rest, j, ⟨h1, h2, h3⟩ => by
    have ih := ech_ld hF (j := j) h3
    rw [List.map_cons, List.map_cons, List.mem_cons]
    constructor
    · rintro ⟨v, ⟨c, v', hv, e⟩, hf⟩
      by_cases hc : c = 0
      · subst hc
        have e' : v = v' := by rw [e]; funext i; simp only [lin]; grind
        exact .inr (ih.mp ⟨v', hv, e' ▸ hf⟩)
      · left
        have low := ech_low h3 h2 hv
        refine hf.inj ⟨?_, fun i hi => ?_⟩
        · rw [e]
          show c * r l + v' l ≠ 0
          rw [low l (Nat.le_refl _)]
          have := mul_ne hF hc h1.1
          grind
        · rw [e]
          show c * r i + v' i = 0
          rw [low i (Nat.le_of_lt hi), h1.2 i hi]
          grind
    · rintro (e | h)
      · subst e
        exact ⟨r, spn_head _ _, h1⟩
      · obtain ⟨v, hv, hf⟩ := ih.mpr h
        exact ⟨v, spn_tail hv, hf⟩
theorem ech_nd : ∀ {rl : List (Vc p × Nat)}, Ech rl → (rl.map (·.2)).Nodup
  | [], _ => List.nodup_nil
  | (r, l) :: rest, ⟨_, h2, h3⟩ => by
    rw [List.map_cons, List.nodup_cons]
    refine ⟨fun h => ?_, ech_nd h3⟩
    obtain ⟨q, hq, e⟩ := List.mem_map.mp h
    have := h2 q hq
    omega
theorem ech_dim (hF : Fld p) {w : Nat} {rl : List (Vc p × Nat)} (h : Ech rl) (hw : ∀ q ∈ rl, q.2 < w) : dim w (spn (rl.map (·.1))) = rl.length := by
  have e : ((List.range w).filter fun j => decide (ld (spn (rl.map (·.1))) j)).Perm (rl.map (·.2)) := by
    rw [List.perm_ext_iff_of_nodup (List.nodup_range.filter _) (ech_nd h)]
    intro j
    rw [List.mem_filter, List.mem_range, decide_eq_true_eq, ech_ld hF h]
    constructor
    · exact fun h => h.2
    · intro hj
      obtain ⟨q, hq, e⟩ := List.mem_map.mp hj
      exact ⟨by rw [← e]; exact hw q hq, hj⟩
  unfold dim
  rw [e.length_eq, List.length_map]
/-! ### one row more -/
theorem fst_ex {w : Nat} {v : Vc p} (hv : ∀ i, w ≤ i → v i = 0) (hn : v ≠ zv) : ∃ j, j < w ∧ Fst v j := by
  have : ∃ j, v j ≠ 0 := by
    apply Classical.byContradiction
    intro h
    apply hn
    funext i
    exact Classical.byContradiction fun hi => h ⟨i, hi⟩
  obtain ⟨j, hj⟩ := this
  have key : ∀ n, v n ≠ 0 → ∃ j, j ≤ n ∧ Fst v j := by
    intro n
    induction n using Nat.strongRecOn with
    | _ n ih =>
      intro hn
      by_cases h : ∃ i, i < n ∧ v i ≠ 0
      · obtain ⟨i, hi, hv⟩ := h
        obtain ⟨j, hj, hf⟩ := ih i hi hv
        exact ⟨j, by omega, hf⟩
      · exact ⟨n, Nat.le_refl _, hn, fun i hi => Classical.byContradiction fun z => h ⟨i, hi, z⟩⟩
  obtain ⟨k, hk, hf⟩ := key j hj
  refine ⟨k, Nat.lt_of_not_le fun h => hf.1 (hv k h), hf⟩
/-- a row less the rows' leads -/
theorem red_ex (hF : Fld p) : ∀ {rl : List (Vc p × Nat)} (v : Vc p), Ech rl → ∃ u : Vc p, spn (rl.map (·.1)) (fun i => v i - u i) ∧ (∀ q ∈ rl, u q.2 = 0)
  | [], v, _ => ⟨v, by show (fun i => v i - v i) = zv; funext i; simp only [zv]; grind, fun q hq => by simp at hq⟩
  | (r, l) :: rest, v, ⟨h1, h2, h3⟩ => by
    obtain ⟨b, hb⟩ := hF (r l) h1.1
    obtain ⟨u, hu, hz⟩ := red_ex hF (fun i => v i - (v l * b) * r i) h3
    refine ⟨u, ⟨v l * b, fun i => (v i - (v l * b) * r i) - u i, hu, ?_⟩, fun q hq => ?_⟩
    · funext i; simp only [lin]; grind
    · rcases List.mem_cons.mp hq with e | e
      · subst e
        have low := ech_low h3 h2 hu l (Nat.le_refl _)
        simp only at low ⊢
        grind
      · exact hz q e
theorem ech_ins : ∀ {rl : List (Vc p × Nat)} {v : Vc p} {l : Nat}, Ech rl → Fst v l → l ∉ rl.map (·.2) → ∃ rl', Ech rl' ∧ rl'.Perm ((v, l) :: rl)
  | [], v, l, _, hf, _ => ⟨[(v, l)], ⟨hf, by simp, trivial⟩, List.Perm.refl _⟩
  | (r, k) :: rest, v, l, ⟨h1, h2, h3⟩, hf, hn => by
    rw [List.map_cons, List.mem_cons, not_or] at hn
    by_cases hlk : l < k
    · refine ⟨(v, l) :: (r, k) :: rest, ⟨hf, fun q hq => ?_, h1, h2, h3⟩, List.Perm.refl _⟩
      rcases List.mem_cons.mp hq with e | e
      · rw [e]; exact hlk
      · exact Nat.lt_trans hlk (h2 q e)
    · obtain ⟨rl', e1, e2⟩ := ech_ins h3 hf hn.2
      refine ⟨(r, k) :: rl', ⟨h1, fun q hq => ?_, e1⟩, (e2.cons (r, k)).trans (List.Perm.swap _ _ _)⟩
      rcases List.mem_cons.mp (e2.mem_iff.mp hq) with e | e
      · rw [e]
        have h := hn.1
        simp only at h ⊢
        omega
      · exact h2 q e
def Sup (w : Nat) (v : Vc p) : Prop := ∀ i, w ≤ i → v i = 0
theorem spn_sup {w : Nat} : ∀ {rs : List (Vc p)} {v : Vc p}, (∀ r ∈ rs, Sup w r) → spn rs v → Sup w v
  | [], v, _, h => by
    have : v = zv := h
    rw [this]
    exact fun _ _ => rfl
  | r :: rs, v, hr, ⟨c, v', h, e⟩ => fun i hi => by
    have e1 := spn_sup (fun q hq => hr q (by simp [hq])) h i hi
    have e2 := hr r (by simp) i hi
    rw [e]
    show c * r i + v' i = 0
    rw [e1, e2]
    grind
/-- how many rows are no sums of those behind -/
noncomputable def inc : List (Vc p) → Nat
  | [] => 0
  | r :: rs => inc rs + if spn rs r then 0 else 1
theorem base_ex (hF : Fld p) {w : Nat} : ∀ {rs : List (Vc p)}, (∀ r ∈ rs, Sup w r) → ∃ rl : List (Vc p × Nat), Ech rl ∧ (∀ q ∈ rl, q.2 < w) ∧ Sm (rl.map (·.1)) rs ∧ rl.length = inc rs
  | [], _ => ⟨[], trivial, by simp, Sm.refl _, rfl⟩
  | r :: rs, hr => by
    obtain ⟨rl, e1, e2, e3, e4⟩ := base_ex hF (rs := rs) fun q hq => hr q (by simp [hq])
    by_cases hs : spn rs r
    · exact ⟨rl, e1, e2, e3.trans (sm_in hs).symm, by unfold inc; rw [if_pos hs, e4]; rfl⟩
    · obtain ⟨u, hu, hz⟩ := red_ex hF r e1
      have su : Sup w u := fun i hi => by
        have q1 := spn_sup (w := w) (fun q hq => hr q (by simp [hq])) ((e3 _).mp hu) i hi
        have q2 := hr r (by simp) i hi
        rw [q2] at q1
        grind
      have hn : u ≠ zv := fun e => by
        apply hs
        rw [← e3 r]
        have e' : (fun i => r i - u i) = r := by rw [e]; funext i; simp only [zv]; grind
        rw [← e']
        exact hu
      obtain ⟨l, hl, hf⟩ := fst_ex su hn
      have hnl : l ∉ rl.map (·.2) := fun h => by
        obtain ⟨q, hq, e⟩ := List.mem_map.mp h
        have := hz q hq
        rw [e] at this
        exact hf.1 this
      obtain ⟨rl', g1, g2⟩ := ech_ins e1 hf hnl
      refine ⟨rl', g1, fun q hq => ?_, ?_, ?_⟩
      · rcases List.mem_cons.mp (g2.mem_iff.mp hq) with e | e
        · rw [e]; exact hl
        · exact e2 q e
      · refine (sm_perm (g2.map (·.1))).trans ?_
        rw [List.map_cons]
        refine Sm.trans (b := r :: rl.map (·.1)) (sm_of (fun q hq => ?_) (fun q hq => ?_)) (sm_cons e3)
        · rcases List.mem_cons.mp hq with e | e
          · rw [e]
            have h1 := spn_lin (a := -1) (spn_tail (r := r) hu) (spn_head r (rl.map (·.1)))
            have e' : lin (-1) (fun i => r i - u i) r = u := by funext i; simp only [lin]; grind
            rw [e'] at h1
            exact h1
          · exact spn_tail (spn_mem e)
        · rcases List.mem_cons.mp hq with e | e
          · rw [e]
            have h1 := spn_lin (a := 1) (spn_tail (r := u) hu) (spn_head u (rl.map (·.1)))
            have e' : lin 1 (fun i => r i - u i) u = r := by funext i; simp only [lin]; grind
            rw [e'] at h1
            exact h1
          · exact spn_tail (spn_mem e)
      · rw [g2.length_eq]
        unfold inc
        rw [if_neg hs, ← e4]
        rfl
theorem dim_inc (hF : Fld p) {w : Nat} {rs : List (Vc p)} (h : ∀ r ∈ rs, Sup w r) : dim w (spn rs) = inc rs := by
  obtain ⟨rl, e1, e2, e3, e4⟩ := base_ex hF h
  rw [← dim_sm e3, ech_dim hF e1 e2, e4]
/-- injective linear maps keep it -/
structure Lin (L : Vc p → Vc p) : Prop where
  lin : ∀ c u v, L (La.lin c u v) = La.lin c (L u) (L v)
  zero : L zv = zv
  inj : ∀ u v, L u = L v → u = v
theorem spn_map {L : Vc p → Vc p} (hL : Lin L) : ∀ {rs : List (Vc p)} {v : Vc p}, spn (rs.map L) v ↔ ∃ u, spn rs u ∧ v = L u
  | [], v => by
    constructor
    · intro h
      exact ⟨zv, rfl, by rw [hL.zero]; exact h⟩
    · rintro ⟨u, hu, e⟩
      have : u = zv := hu
      rw [e, this, hL.zero]
      rfl
  | r :: rs, v => by
    constructor
    · rintro ⟨c, v', h, e⟩
      obtain ⟨u, hu, e2⟩ := (spn_map hL).mp h
      exact ⟨lin c r u, ⟨c, u, hu, rfl⟩, by rw [hL.lin, ← e2, e]⟩
    · rintro ⟨u, ⟨c, u', hu, e⟩, e2⟩
      exact ⟨c, L u', (spn_map hL).mpr ⟨u', hu, rfl⟩, by rw [e2, e, hL.lin]⟩
theorem spn_map' {L : Vc p → Vc p} (hL : Lin L) {rs : List (Vc p)} {v : Vc p} : spn (rs.map L) (L v) ↔ spn rs v := by
  rw [spn_map hL]
  constructor
  · rintro ⟨u, hu, e⟩
    rw [hL.inj v u e]
    exact hu
  · exact fun h => ⟨v, h, rfl⟩
theorem inc_map {L : Vc p → Vc p} (hL : Lin L) : ∀ rs : List (Vc p), inc (rs.map L) = inc rs
  | [] => rfl
  | r :: rs => by
    show inc (rs.map L) + (if spn (rs.map L) (L r) then 0 else 1) = inc rs + if spn rs r then 0 else 1
    rw [inc_map hL rs]
    simp only [spn_map' hL]
/-! ### the sum over all lots -/
/-- Pl f base rows: the sum over all parts of the rows, with signs -/
def Pl (f : List (Vc p) → Int) : List (Vc p) → List (Vc p) → Int
  | base, [] => f base
  | base, r :: rows => Pl f base rows - Pl f (r :: base) rows
def Inv (f : List (Vc p) → Int) : Prop := ∀ a b, Sm a b → f a = f b
theorem pl_sm {f : List (Vc p) → Int} (hf : Inv f) : ∀ {rows a b : List (Vc p)}, Sm a b → Pl f a rows = Pl f b rows
  | [], a, b, h => hf a b h
  | r :: rows, a, b, h => by
    show Pl f a rows - Pl f (r :: a) rows = Pl f b rows - Pl f (r :: b) rows
    rw [pl_sm hf h, pl_sm hf (sm_cons h)]
theorem pl_in {f : List (Vc p) → Int} (hf : Inv f) : ∀ {rows a : List (Vc p)}, (∃ r ∈ rows, spn a r) → Pl f a rows = 0
  | [], a, ⟨r, h, _⟩ => by simp at h
  | q :: rows, a, ⟨r, h, hs⟩ => by
    show Pl f a rows - Pl f (q :: a) rows = 0
    rcases List.mem_cons.mp h with e | e
    · subst e
      rw [pl_sm hf (sm_in hs)]
      omega
    · rw [pl_in hf ⟨r, e, hs⟩, pl_in hf ⟨r, e, spn_tail hs⟩]
      rfl
theorem pl_perm {f : List (Vc p) → Int} (hf : Inv f) {r1 r2 : List (Vc p)} (h : r1.Perm r2) : ∀ a, Pl f a r1 = Pl f a r2 := by
  induction h with
  | nil => exact fun _ => rfl
  | cons r _ ih =>
    intro a
    show Pl f a _ - Pl f (r :: a) _ = Pl f a _ - Pl f (r :: a) _
    rw [ih, ih]
  | swap x y l =>
    intro a
    show (Pl f a l - Pl f (x :: a) l) - (Pl f (y :: a) l - Pl f (x :: y :: a) l) = (Pl f a l - Pl f (y :: a) l) - (Pl f (x :: a) l - Pl f (y :: x :: a) l)
    rw [pl_sm hf (sm_swap x y a)]
    omega
  | trans _ _ ih1 ih2 => exact fun a => (ih1 a).trans (ih2 a)
theorem pl_dup {f : List (Vc p) → Int} (hf : Inv f) {r : Vc p} {rows a : List (Vc p)} (h : r ∈ rows) : Pl f a (r :: rows) = Pl f a rows := by
  show Pl f a rows - Pl f (r :: a) rows = Pl f a rows
  rw [pl_in hf (a := r :: a) ⟨r, h, spn_head r a⟩]
  omega
/-- rows that are there already -/
theorem pl_more {f : List (Vc p) → Int} (hf : Inv f) : ∀ {ts rows a : List (Vc p)}, (∀ t ∈ ts, t ∈ rows) → Pl f a (ts ++ rows) = Pl f a rows
  | [], rows, a, _ => rfl
  | t :: ts, rows, a, h => by
    show Pl f a (t :: (ts ++ rows)) = _
    rw [pl_dup hf (List.mem_append_right _ (h t (by simp)))]
    exact pl_more hf fun q hq => h q (by simp [hq])
/-- as sets -/
theorem pl_set {f : List (Vc p) → Int} (hf : Inv f) {r1 r2 a : List (Vc p)} (h : ∀ r, r ∈ r1 ↔ r ∈ r2) : Pl f a r1 = Pl f a r2 := by
  rw [← pl_more hf (ts := r1) (rows := r2) (a := a) fun t ht => (h t).mp ht, ← pl_more hf (ts := r2) (rows := r1) (a := a) fun t ht => (h t).mpr ht]
  exact pl_perm hf List.perm_append_comm a
/-- a row more that is c times a bad one and a sum -/
theorem pl_beside {f : List (Vc p) → Int} (hf : Inv f) {r b : Vc p} {rows a : List (Vc p)} (hb : b ∈ rows) (h : spn (r :: a) b) : Pl f a (r :: rows) = Pl f a rows := by
  show Pl f a rows - Pl f (r :: a) rows = Pl f a rows
  rw [pl_in hf (a := r :: a) ⟨b, hb, h⟩]
  omega
theorem pl_last {f : List (Vc p) → Int} (hf : Inv f) {r : Vc p} {rows a : List (Vc p)} : Pl f a (rows ++ [r]) = Pl f a rows - Pl f (r :: a) rows :=
  (pl_perm hf (List.perm_append_comm (l₁ := rows) (l₂ := [r])) a).trans rfl
/-- f of the maps -/
theorem pl_map {f g : List (Vc p) → Int} {L : Vc p → Vc p} : ∀ {rows a : List (Vc p)}, (∀ b, (∀ r ∈ b, r ∈ a ∨ r ∈ rows) → f (b.map L) = g b) → Pl f (a.map L) (rows.map L) = Pl g a rows
  | [], a, h => h a fun r hr => .inl hr
  | r :: rows, a, h => by
    show Pl f (a.map L) (rows.map L) - Pl f ((r :: a).map L) (rows.map L) = Pl g a rows - Pl g (r :: a) rows
    have h1 := pl_map (f := f) (g := g) (L := L) (rows := rows) (a := a) fun b hb => h b fun q hq => (hb q hq).elim .inl fun e => .inr (by simp [e])
    have h2 := pl_map (f := f) (g := g) (L := L) (rows := rows) (a := r :: a) fun b hb => h b fun q hq => (hb q hq).elim (fun e => (List.mem_cons.mp e).elim (fun e => .inr (by simp [e])) .inl) fun e => .inr (by simp [e])
    rw [h1, h2]
end
end La
end

section
set_option Elab.async false
set_option linter.all false
/-! Int rows as vectors over Fin q. -/
namespace La
section
variable {q : Nat} [NeZero q]
def iv (q : Nat) [NeZero q] (x : Int) : Fin q := Fin.ofNat q (x % (q : Int)).toNat
theorem q_pos : (0 : Int) < (q : Int) := by
  have := NeZero.ne q
  omega
theorem iv_val (x : Int) : (((iv q x : Fin q) : Nat) : Int) = x % (q : Int) := by
  have h0 := Int.emod_nonneg x (Int.ne_of_gt (q_pos (q := q)))
  have h1 := Int.emod_lt_of_pos x (q_pos (q := q))
  show (((x % (q : Int)).toNat % q : Nat) : Int) = _
  rw [Nat.mod_eq_of_lt (by omega), Int.toNat_of_nonneg h0]
theorem iv_ext {a b : Fin q} (h : ((a : Nat) : Int) = ((b : Nat) : Int)) : a = b := Fin.ext (by omega)
theorem iv_mod (x : Int) : iv q (x % (q : Int)) = iv q x := iv_ext (by rw [iv_val, iv_val, Int.emod_emod_of_dvd _ (Int.dvd_refl _)])
theorem iv_add (x y : Int) : iv q (x + y) = iv q x + iv q y := iv_ext (by
  rw [iv_val, Fin.val_add, Int.natCast_emod, Int.natCast_add, iv_val, iv_val, ← Int.add_emod])
theorem iv_mul (x y : Int) : iv q (x * y) = iv q x * iv q y := iv_ext (by
  rw [iv_val, Fin.val_mul, Int.natCast_emod, Int.natCast_mul, iv_val, iv_val, ← Int.mul_emod])
theorem iv_zero : iv q 0 = 0 := iv_ext (by
  rw [iv_val, Int.zero_emod]
  rfl)
theorem iv_sub (x y : Int) : iv q (x - y) = iv q x - iv q y := by
  have h : iv q (x - y) + iv q y = iv q x := by rw [← iv_add]; congr 1; omega
  grind
theorem iv_eq {x y : Int} (hx : 0 ≤ x ∧ x < q) (hy : 0 ≤ y ∧ y < q) (h : iv q x = iv q y) : x = y := by
  have e := congrArg (fun a : Fin q => ((a : Nat) : Int)) h
  simp only [iv_val] at e
  rw [Int.emod_eq_of_lt hx.1 hx.2, Int.emod_eq_of_lt hy.1 hy.2] at e
  exact e
theorem iv_eq0 {x : Int} (hx : 0 ≤ x ∧ x < q) : iv q x = 0 ↔ x = 0 := by
  constructor
  · intro h
    exact iv_eq hx ⟨Int.le_refl _, q_pos⟩ (by rw [h, iv_zero])
  · rintro rfl
    exact iv_zero
theorem iv_sur (a : Fin q) : iv q ((a : Nat) : Int) = a := iv_ext (by
  rw [iv_val, Int.emod_eq_of_lt (by omega) (by have := a.isLt; omega)])
theorem iv_one (h : 1 < q) : iv q 1 = 1 := iv_ext (by
  rw [iv_val, Int.emod_eq_of_lt (by decide) (by omega)]
  show (1 : Int) = ((1 % q : Nat) : Int)
  rw [Nat.mod_eq_of_lt h]
  rfl)
def vec (q : Nat) [NeZero q] (r : List Int) : Vc q := fun i => iv q (r.getD i 0)
theorem vec_sup {r : List Int} {w : Nat} (h : r.length = w) : Sup w (vec q r) := fun i hi => by
  show iv q (r.getD i 0) = 0
  have : r.getD i 0 = 0 := by simp [List.getD, List.getElem?_eq_none (by omega : r.length ≤ i)]
  rw [this, iv_zero]
end
end La
end

section
set_option Elab.async false
set_option linter.all false
/-! The fewest points of a polynomial of a degree: it is not 0 at so many at least. -/
namespace Rm
open Classical La
section
variable {p : Nat} [NeZero p]
/-- a polynomial in one unknown by its numbers, the lowest first -/
def ev : List (Fin p) → Fin p → Fin p
  | [], _ => 0
  | c :: cs, a => c + a * ev cs a
def dq (r : Fin p) : List (Fin p) → List (Fin p)
  | [] => []
  | c :: cs => ev (c :: cs) r :: dq r cs
theorem dq_len (r : Fin p) : ∀ cs : List (Fin p), (dq r cs).length = cs.length
  | [] => rfl
  | c :: cs => by rw [dq, List.length_cons, List.length_cons, dq_len r cs]
theorem ev_dq (r a : Fin p) : ∀ (cs : List (Fin p)) (c : Fin p), ev (c :: cs) a = ev (c :: cs) r + (a - r) * ev (dq r cs) a
  | [], c => by simp only [ev, dq]; grind
  | c' :: cs, c => by
    have ih := ev_dq r a cs c'
    have e1 : ev (c :: c' :: cs) a = c + a * ev (c' :: cs) a := rfl
    have e2 : ev (c :: c' :: cs) r = c + r * ev (c' :: cs) r := rfl
    have e3 : ev (dq r (c' :: cs)) a = ev (c' :: cs) r + a * ev (dq r cs) a := rfl
    rw [e1, e2, e3, ih]
    generalize ev (c' :: cs) r = x
    generalize ev (dq r cs) a = y
    grind
theorem ev_zero {a : Fin p} : ∀ {cs : List (Fin p)}, (∀ c ∈ cs, c = 0) → ev cs a = 0
  | [], _ => rfl
  | c :: cs, h => by
    show c + a * ev cs a = 0
    rw [ev_zero fun d hd => h d (by simp [hd]), h c (by simp)]
    grind
theorem dq_zero (r : Fin p) : ∀ {cs : List (Fin p)}, (∀ c ∈ dq r cs, c = 0) → ∀ c ∈ cs, c = 0
  | [], _, c, hc => by simp at hc
  | d :: cs, h, c, hc => by
    have ih := dq_zero r (cs := cs) fun c hc => h c (by rw [dq]; simp [hc])
    rcases List.mem_cons.mp hc with rfl | hc
    · have e : ev (c :: cs) r = 0 := h _ (by rw [dq]; simp)
      have e2 : c + r * ev cs r = 0 := e
      rw [ev_zero ih] at e2
      grind
    · exact ih c hc
theorem root_zero (hF : Fld p) : ∀ (T : List (Fin p)), T.Nodup → ∀ cs : List (Fin p), cs.length ≤ T.length → (∀ a ∈ T, ev cs a = 0) → ∀ c ∈ cs, c = 0
  | [], _, cs, hl, _, c, hc => by
    have : cs = [] := List.eq_nil_of_length_eq_zero (by simpa using hl)
    rw [this] at hc
    simp at hc
  | r :: T, hT, [], _, _, c, hc => by simp at hc
  | r :: T, hT, d :: cs, hl, h, c, hc => by
    obtain ⟨h1, h2⟩ := List.nodup_cons.mp hT
    have hr := h r (by simp)
    have hz := root_zero hF T h2 (dq r cs) (by rw [dq_len]; simpa using hl) fun a ha => by
      have e := ev_dq r a cs d
      rw [h a (by simp [ha]), hr] at e
      have ne : a - r ≠ 0 := fun z => h1 (by
        have : a = r := by grind
        rwa [this] at ha)
      apply Classical.byContradiction
      intro hn
      exact mul_ne hF ne hn (by grind)
    have hz2 := dq_zero r hz
    rcases List.mem_cons.mp hc with rfl | hc
    · have e2 : c + r * ev cs r = 0 := hr
      rw [ev_zero hz2] at e2
      grind
    · exact hz2 c hc
/-- the numbers of the first unknown -/
def row (c : List Nat → Fin p) (e : List Nat) : List (Fin p) := (List.range p).map fun k => c (k :: e)
theorem ev_take {a : Fin p} : ∀ {cs : List (Fin p)} {t : Nat}, (∀ k c, t ≤ k → cs[k]? = some c → c = 0) → ev (cs.take t) a = ev cs a
  | [], t, _ => by rw [List.take_nil]
  | c :: cs, 0, h => by
    rw [List.take_zero]
    refine (ev_zero fun d hd => ?_).symm
    obtain ⟨k, hk, e⟩ := List.getElem_of_mem hd
    exact h k d (Nat.zero_le _) (by rw [List.getElem?_eq_getElem hk, e])
  | c :: cs, t + 1, h => by
    rw [List.take_succ_cons]
    show c + a * ev (cs.take t) a = c + a * ev cs a
    rw [ev_take fun k d hk e => h (k + 1) d (by omega) (by simpa using e)]
/-- a row that is not 0, with so many roots: a number that high -/
theorem high (hF : Fld p) {T : List (Fin p)} (hT : T.Nodup) {c : List Nat → Fin p} {e : List Nat} (h : ∀ a ∈ T, ev (row c e) a = 0) {k : Nat} (hk : k < p) (hn : c (k :: e) ≠ 0) : ∃ j, T.length ≤ j ∧ j < p ∧ c (j :: e) ≠ 0 := by
  apply Classical.byContradiction
  intro hno
  have low : ∀ j x, T.length ≤ j → (row c e)[j]? = some x → x = 0 := fun j x hj hx => by
    have hjp : j < p := by
      have := (List.getElem?_eq_some_iff.mp hx).1
      simpa [row] using this
    have ex : x = c (j :: e) := by
      unfold row at hx
      rw [List.getElem?_map, List.getElem?_range hjp] at hx
      exact (Option.some.inj hx).symm
    apply Classical.byContradiction
    intro hx0
    exact hno ⟨j, hj, hjp, by rw [← ex]; exact hx0⟩
  have z := root_zero hF T hT ((row c e).take T.length) (by rw [List.length_take]; omega) fun a ha => by rw [ev_take low]; exact h a ha
  apply hn
  have ek : (row c e)[k]? = some (c (k :: e)) := by
    unfold row
    rw [List.getElem?_map, List.getElem?_range hk]
    rfl
  by_cases hkt : k < T.length
  · refine z _ (List.mem_of_getElem? (i := k) ?_)
    rw [List.getElem?_take_of_lt hkt, ek]
  · exact low k _ (by omega) ek
/-- the first unknown is put in -/
def sub1 (c : List Nat → Fin p) (a : Fin p) : List Nat → Fin p := fun e => ev (row c e) a
def V (c : List Nat → Fin p) : List (Fin p) → Fin p
  | [] => c []
  | a :: xs => V (sub1 c a) xs
def Box (p n : Nat) (e : List Nat) : Prop := e.length = n ∧ ∀ k ∈ e, k < p
def Nz (n : Nat) (c : List Nat → Fin p) : Prop := ∃ e, Box p n e ∧ c e ≠ 0
def Dg (n d : Nat) (c : List Nat → Fin p) : Prop := ∀ e, Box p n e → c e ≠ 0 → e.sum ≤ d
/-- the points, the first unknown slowest -/
def pts (p : Nat) [NeZero p] : Nat → List (List (Fin p))
  | 0 => [[]]
  | n + 1 => (List.finRange p).flatMap fun a => (pts p n).map (a :: ·)
noncomputable def cnt (n : Nat) (c : List Nat → Fin p) : Nat := ((pts p n).filter fun x => decide (V c x ≠ 0)).length
/-- the law's number -/
def w (p : Nat) : Nat → Nat → Nat
  | 0, _ => 1
  | n + 1, d => if p - 1 ≤ d then w p n (d - (p - 1)) else (p - d) * p ^ n
theorem w_pos (hp : 2 ≤ p) : ∀ n d, 1 ≤ w p n d
  | 0, _ => Nat.le_refl _
  | n + 1, d => by
    unfold w
    split
    · exact w_pos hp n _
    · exact Nat.mul_pos (by omega) (Nat.pow_pos (by omega))
theorem w_low (n d : Nat) (h : d < p - 1) : w p (n + 1) d = (p - d) * p ^ n := by
  rw [w, if_neg (by omega)]
theorem w_high (n d : Nat) (h : p - 1 ≤ d) : w p (n + 1) d = w p n (d - (p - 1)) := by
  rw [w, if_pos h]
theorem w_step (hp : 2 ≤ p) : ∀ (n D s : Nat), s ≤ p - 1 → s ≤ D → w p n (D - s) ≤ (s + 1) * w p n D
  | 0, D, s, _, _ => by
    show 1 ≤ (s + 1) * 1
    omega
  | n + 1, D, s, h1, h2 => by
    by_cases hD : D < p - 1
    · rw [w_low n _ (by omega), w_low n _ hD, ← Nat.mul_assoc]
      refine Nat.mul_le_mul_right _ ?_
      obtain ⟨g, hg⟩ : ∃ g, p = D + 1 + g := ⟨p - D - 1, by omega⟩
      have e1 : p - (D - s) = s + 1 + g := by omega
      have e2 : p - D = 1 + g := by omega
      rw [e1, e2]
      simp only [Nat.add_mul, Nat.mul_add]
      omega
    · by_cases hs : p - 1 ≤ D - s
      · rw [w_high n _ hs, w_high n D (by omega)]
        have := w_step hp n (D - (p - 1)) s h1 (by omega)
        rwa [show D - (p - 1) - s = D - s - (p - 1) by omega] at this
      · rw [w_low n _ (by omega), w_high n D (by omega)]
        obtain ⟨u, hu⟩ : ∃ u, D = p - 1 + u := ⟨D - (p - 1), by omega⟩
        have eu : D - (p - 1) = u := by omega
        rw [eu]
        have hus : u < s := by omega
        have e1 : p - (D - s) = 1 + s - u := by omega
        rw [e1]
        cases n with
        | zero =>
          show (1 + s - u) * 1 ≤ (s + 1) * 1
          omega
        | succ n =>
          rw [w_low n u (by omega), Nat.pow_succ, Nat.mul_comm (p ^ n) p, ← Nat.mul_assoc, ← Nat.mul_assoc]
          refine Nat.mul_le_mul_right _ ?_
          obtain ⟨g, hg⟩ : ∃ g, s = u + g := ⟨s - u, by omega⟩
          obtain ⟨q, hq⟩ : ∃ q, p = u + g + 1 + q := ⟨p - (u + g + 1), by omega⟩
          have a1 : 1 + s - u = 1 + g := by omega
          have a2 : p - u = g + 1 + q := by omega
          rw [a1, a2, hg, hq]
          simp only [Nat.add_mul, Nat.mul_add, Nat.one_mul, Nat.mul_one]
          have : g * u = u * g := Nat.mul_comm ..
          omega
theorem w_le (hp : 2 ≤ p) (n d t : Nat) (h1 : t ≤ p - 1) (h2 : t ≤ d) : w p (n + 1) d ≤ (p - t) * w p n (d - t) := by
  by_cases hd : d < p - 1
  · rw [w_low n d hd]
    cases n with
    | zero =>
      show (p - d) * 1 ≤ (p - t) * 1
      omega
    | succ n =>
      rw [w_low n _ (by omega), Nat.pow_succ, Nat.mul_comm (p ^ n) p, ← Nat.mul_assoc, ← Nat.mul_assoc]
      refine Nat.mul_le_mul_right _ ?_
      obtain ⟨g, hg⟩ : ∃ g, d = t + g := ⟨d - t, by omega⟩
      obtain ⟨q, hq⟩ : ∃ q, p = t + g + q := ⟨p - (t + g), by omega⟩
      have a1 : p - d = q := by omega
      have a2 : p - t = g + q := by omega
      have a3 : p - (d - t) = t + q := by omega
      rw [a1, a2, a3, hq]
      simp only [Nat.add_mul, Nat.mul_add]
      have e1 : q * t = t * q := Nat.mul_comm ..
      have e2 : q * g = g * q := Nat.mul_comm ..
      omega
  · rw [w_high n d (by omega)]
    have := w_step hp n (d - t) (p - 1 - t) (by omega) (by omega)
    rwa [show d - t - (p - 1 - t) = d - (p - 1) by omega, show p - 1 - t + 1 = p - t by omega] at this
theorem sum_ge {α : Type} (P : α → Prop) (f : α → Nat) (m : Nat) : ∀ l : List α, (∀ a ∈ l, P a → m ≤ f a) → (l.filter fun a => decide (P a)).length * m ≤ (l.map f).sum
  | [], _ => by simp
  | a :: l, h => by
    have ih := sum_ge P f m l fun b hb => h b (by simp [hb])
    rw [List.map_cons, List.sum_cons]
    by_cases ha : P a
    · rw [List.filter_cons_of_pos (by simp [ha]), List.length_cons, Nat.add_mul]
      have := h a (by simp) ha
      omega
    · rw [List.filter_cons_of_neg (by simp [ha])]
      omega
theorem len_split {α : Type} (P : α → Prop) : ∀ l : List α, (l.filter fun a => decide (P a)).length + (l.filter fun a => decide (¬ P a)).length = l.length
  | [] => rfl
  | a :: l => by
    have ih := len_split P l
    by_cases ha : P a
    · rw [List.filter_cons_of_pos (by simp [ha]), List.filter_cons_of_neg (by simp [ha]), List.length_cons, List.length_cons]
      omega
    · rw [List.filter_cons_of_neg (by simp [ha]), List.filter_cons_of_pos (by simp [ha]), List.length_cons, List.length_cons]
      omega
theorem cnt_succ (n : Nat) (c : List Nat → Fin p) : cnt (n + 1) c = ((List.finRange p).map fun a => cnt n (sub1 c a)).sum := by
  unfold cnt
  rw [pts]
  induction List.finRange p with
  | nil => rfl
  | cons a l ih =>
    rw [List.flatMap_cons, List.filter_append, List.length_append, ih, List.map_cons, List.sum_cons, List.filter_map, List.length_map]
    rfl
theorem fewest (hF : Fld p) (hp : 2 ≤ p) : ∀ (n d : Nat) (c : List Nat → Fin p), Nz n c → Dg n d c → w p n d ≤ cnt n c
  | 0, d, c, ⟨e, he, hc⟩, _ => by
    have : e = [] := List.eq_nil_of_length_eq_zero he.1
    subst this
    show 1 ≤ cnt 0 c
    unfold cnt
    have hv : V c [] ≠ 0 := hc
    simp only [pts, List.filter_cons, List.filter_nil]
    rw [if_pos (decide_eq_true hv)]
    exact Nat.le_refl _
  | n + 1, d, c, ⟨ke, he, hc⟩, hd => by
    obtain ⟨k, e, rfl⟩ : ∃ k e, ke = k :: e := by
      cases ke with
      | nil => simp [Box] at he
      | cons k e => exact ⟨k, e, rfl⟩
    have hbe : Box p n e := ⟨by simpa using he.1, fun j hj => he.2 j (by simp [hj])⟩
    have hk : k < p := he.2 k (by simp)
    have roots : ∀ e, Box p n e → ∀ a ∈ (List.finRange p).filter fun a => decide (¬ Nz n (sub1 c a)), ev (row c e) a = 0 := fun e he a ha => by
      have := (List.mem_filter.mp ha).2
      rw [decide_eq_true_eq] at this
      apply Classical.byContradiction
      intro hn
      exact this ⟨e, he, hn⟩
    have nd : ((List.finRange p).filter fun a => decide (¬ Nz n (sub1 c a))).Nodup := (List.nodup_finRange p).filter _
    have cons_box : ∀ {j : Nat} {e : List Nat}, j < p → Box p n e → Box p (n + 1) (j :: e) := fun hj he => ⟨by simp [he.1], fun i hi => by
      rcases List.mem_cons.mp hi with rfl | hi
      · exact hj
      · exact he.2 i hi⟩
    have sp := len_split (fun a => Nz n (sub1 c a)) (List.finRange p)
    rw [List.length_finRange] at sp
    generalize hT : ((List.finRange p).filter fun a => decide (¬ Nz n (sub1 c a))) = T at roots nd sp
    obtain ⟨j, j1, j2, j3⟩ := high hF nd (roots e hbe) hk hc
    have jd := hd (j :: e) (cons_box j2 hbe) j3
    rw [List.sum_cons] at jd
    have step : ∀ a, Nz n (sub1 c a) → w p n (d - T.length) ≤ cnt n (sub1 c a) := fun a ha => by
      refine fewest hF hp n _ _ ha fun e2 h2 hn => ?_
      have : ∃ i, i < p ∧ c (i :: e2) ≠ 0 := by
        apply Classical.byContradiction
        intro hno
        refine hn (ev_zero fun x hx => ?_)
        obtain ⟨i, hi, rfl⟩ := List.mem_map.mp hx
        apply Classical.byContradiction
        intro hx0
        exact hno ⟨i, List.mem_range.mp hi, hx0⟩
      obtain ⟨i, hi, hci⟩ := this
      obtain ⟨j, k1, k2, k3⟩ := high hF nd (roots e2 h2) hi hci
      have := hd (j :: e2) (cons_box k2 h2) k3
      rw [List.sum_cons] at this
      omega
    have ge := sum_ge (fun a => Nz n (sub1 c a)) (fun a => cnt n (sub1 c a)) (w p n (d - T.length)) (List.finRange p) fun a _ ha => step a ha
    rw [cnt_succ]
    rw [show ((List.finRange p).filter fun a => decide (Nz n (sub1 c a))).length = p - T.length by omega] at ge
    exact Nat.le_trans (w_le hp n d T.length (by omega) (by omega)) ge
end
end Rm
end

section
set_option Elab.async false
set_option linter.all false
/-! Terms; the numbers of a polynomial from its values. -/
namespace Rm
open Classical La
section
variable {p : Nat} [NeZero p]
def pw (a : Fin p) : Nat → Fin p
  | 0 => 1
  | k + 1 => pw a k * a
theorem pw_succ (a : Fin p) (k : Nat) : a * pw a k = pw a (k + 1) := by
  show _ = pw a k * a
  grind
def mon : List Nat → List (Fin p) → Fin p
  | k :: e, a :: xs => pw a k * mon e xs
  | _, _ => 1
theorem ev_lin {α : Type} (f g : α → Fin p) (b a : Fin p) : ∀ l : List α, ev (l.map fun k => f k + b * g k) a = ev (l.map f) a + b * ev (l.map g) a
  | [] => by simp only [List.map_nil, ev]; grind
  | k :: l => by
    have ih := ev_lin f g b a l
    simp only [List.map_cons, ev]
    rw [ih]
    grind
theorem ev_zeros {α : Type} {f : α → Fin p} (a : Fin p) (l : List α) (h : ∀ k ∈ l, f k = 0) : ev (l.map f) a = 0 := ev_zero fun c hc => by
  obtain ⟨k, hk, rfl⟩ := List.mem_map.mp hc
  exact h k hk
theorem ev_one (n a : Fin p) (k : Nat) : ∀ (m s : Nat), s ≤ k → k < s + m → ev ((List.range' s m).map fun j => if k = j then n else 0) a = n * pw a (k - s)
  | 0, s, h1, h2 => by omega
  | m + 1, s, h1, h2 => by
    rw [List.range'_succ, List.map_cons]
    show (if k = s then n else 0) + a * ev ((List.range' (s + 1) m).map fun j => if k = j then n else 0) a = _
    by_cases hk : k = s
    · rw [if_pos hk, ev_zeros a _ fun j hj => by
        have := (List.mem_range'_1.mp hj).1
        rw [if_neg (by omega)], hk, Nat.sub_self]
      show n + a * 0 = n * 1
      grind
    · rw [if_neg hk, ev_one n a k m (s + 1) (by omega) (by omega), show k - s = k - (s + 1) + 1 by omega, ← pw_succ]
      grind
theorem V_lin (c d : List Nat → Fin p) (b : Fin p) : ∀ x : List (Fin p), V (fun e => c e + b * d e) x = V c x + b * V d x := by
  intro x
  induction x generalizing c d with
  | nil => rfl
  | cons a x ih =>
    show V (sub1 (fun e => c e + b * d e) a) x = V (sub1 c a) x + b * V (sub1 d a) x
    rw [← ih]
    congr 1
    funext e
    exact ev_lin (fun k => c (k :: e)) (fun k => d (k :: e)) b a (List.range p)
theorem V_zero : ∀ x : List (Fin p), V (fun _ => (0 : Fin p)) x = 0
  | [] => rfl
  | a :: x => by
    show V (sub1 (fun _ => 0) a) x = 0
    have e : sub1 (fun _ => (0 : Fin p)) a = fun _ => 0 := by
      funext e
      exact ev_zeros a (List.range p) fun _ _ => rfl
    rw [e]
    exact V_zero x
theorem V_one : ∀ (e0 : List Nat) (n : Fin p) (x : List (Fin p)), Box p x.length e0 → V (fun e => if e0 = e then n else 0) x = n * mon e0 x
  | [], n, [], _ => by
    show (if ([] : List Nat) = [] then n else 0) = n * 1
    rw [if_pos rfl]
    grind
  | [], n, a :: x, h => by simp [Box] at h
  | k :: e0, n, [], h => by simp [Box] at h
  | k :: e0, n, a :: x, h => by
    show V (sub1 (fun e => if k :: e0 = e then n else 0) a) x = n * (pw a k * mon e0 x)
    have hk : k < p := h.2 k (by simp)
    have e : sub1 (fun e => if k :: e0 = e then n else 0) a = fun e => if e0 = e then n * pw a k else 0 := by
      funext e
      show ev ((List.range p).map fun j => if k :: e0 = j :: e then n else 0) a = _
      by_cases he : e0 = e
      · rw [if_pos he]
        have q := ev_one n a k p 0 (Nat.zero_le _) (by omega)
        rw [Nat.sub_zero, ← List.range_eq_range'] at q
        rw [← q]
        congr 1
        apply List.map_congr_left
        intro j _
        by_cases hj : k = j
        · rw [if_pos hj, if_pos (by rw [hj, he])]
        · rw [if_neg hj, if_neg (fun z => hj (List.cons.inj z).1)]
      · rw [if_neg he]
        exact ev_zeros a _ fun j _ => if_neg fun z => he (List.cons.inj z).2
    rw [e, V_one e0 (n * pw a k) x ⟨by simpa using h.1, fun j hj => h.2 j (by simp [hj])⟩]
    grind
/-- the numbers that terms tell -/
noncomputable def coef : List (List Nat × Fin p) → List Nat → Fin p
  | [], _ => 0
  | t :: ts, e => (if t.1 = e then t.2 else 0) + 1 * coef ts e
def Vt : List (List Nat × Fin p) → List (Fin p) → Fin p
  | [], _ => 0
  | t :: ts, x => t.2 * mon t.1 x + Vt ts x
theorem V_coef {x : List (Fin p)} : ∀ {ts : List (List Nat × Fin p)}, (∀ t ∈ ts, Box p x.length t.1) → V (coef ts) x = Vt ts x
  | [], _ => V_zero x
  | t :: ts, h => by
    show V (fun e => (if t.1 = e then t.2 else 0) + 1 * coef ts e) x = t.2 * mon t.1 x + Vt ts x
    rw [V_lin, V_one t.1 t.2 x (h t (by simp)), V_coef fun u hu => h u (by simp [hu])]
    grind
theorem coef_not {e : List Nat} : ∀ {ts : List (List Nat × Fin p)}, (∀ t ∈ ts, t.1 ≠ e) → coef ts e = 0
  | [], _ => rfl
  | t :: ts, h => by
    show (if t.1 = e then t.2 else 0) + 1 * coef ts e = 0
    rw [if_neg (h t (by simp)), coef_not fun u hu => h u (by simp [hu])]
    grind
theorem coef_at {t : List Nat × Fin p} : ∀ {ts : List (List Nat × Fin p)}, (ts.map (·.1)).Nodup → t ∈ ts → coef ts t.1 = t.2
  | [], _, h => by simp at h
  | u :: ts, hn, h => by
    obtain ⟨h1, h2⟩ := List.nodup_cons.mp (show (u.1 :: ts.map (·.1)).Nodup from hn)
    show (if u.1 = t.1 then u.2 else 0) + 1 * coef ts t.1 = t.2
    rcases List.mem_cons.mp h with rfl | h
    · rw [if_pos rfl, coef_not fun u hu e => h1 (by rw [← e]; exact List.mem_map_of_mem hu)]
      grind
    · rw [if_neg (fun e => h1 (by rw [e]; exact List.mem_map_of_mem h)), coef_at h2 h]
      grind
theorem few_terms (hF : Fld p) (hp : 2 ≤ p) {n d : Nat} {ts : List (List Nat × Fin p)} (hb : ∀ t ∈ ts, Box p n t.1 ∧ t.2 ≠ 0 ∧ t.1.sum ≤ d) (hn : (ts.map (·.1)).Nodup) (hz : ts ≠ []) : w p n d ≤ cnt n (coef ts) := by
  refine fewest hF hp n d _ ?_ fun e _ he => ?_
  · cases ts with
    | nil => exact absurd rfl hz
    | cons t ts => exact ⟨t.1, (hb t (by simp)).1, by rw [coef_at hn (by simp)]; exact (hb t (by simp)).2.1⟩
  · apply Classical.byContradiction
    intro hno
    exact he (coef_not fun t ht e2 => hno (by rw [← e2]; exact (hb t ht).2.2))
theorem pts_len : ∀ {n : Nat} {x : List (Fin p)}, x ∈ pts p n → x.length = n
  | 0, x, h => by
    rw [pts, List.mem_singleton] at h
    rw [h]
    rfl
  | n + 1, x, h => by
    rw [pts, List.mem_flatMap] at h
    obtain ⟨a, _, h⟩ := h
    obtain ⟨y, hy, rfl⟩ := List.mem_map.mp h
    rw [List.length_cons, pts_len hy]
theorem V_congr : ∀ {x : List (Fin p)} {c d : List Nat → Fin p}, (∀ e, Box p x.length e → c e = d e) → V c x = V d x
  | [], c, d, h => h [] ⟨rfl, fun _ hk => by simp at hk⟩
  | a :: x, c, d, h => by
    show V (sub1 c a) x = V (sub1 d a) x
    refine V_congr fun e he => ?_
    show ev (row c e) a = ev (row d e) a
    congr 1
    unfold row
    apply List.map_congr_left
    intro k hk
    exact h (k :: e) ⟨by simp [he.1], fun j hj => by
      rcases List.mem_cons.mp hj with rfl | hj
      · exact List.mem_range.mp hk
      · exact he.2 j hj⟩
theorem cnt_congr {n : Nat} {c : List Nat → Fin p} {f : List (Fin p) → Fin p} (h : ∀ x, x.length = n → V c x = f x) : cnt n c = ((pts p n).filter fun x => decide (f x ≠ 0)).length := by
  unfold cnt
  congr 1
  apply List.filter_congr
  intro x hx
  rw [h x (pts_len hx)]
/-! ### the numbers from the values -/
def wt (p : Nat) [NeZero p] (k y : Nat) : Fin p := if k = 0 then (if y = 0 then 1 else 0) else - pw (Fin.ofNat p y) (p - 1 - k)
def Tr (st : Nat) (f : Nat → Fin p) (j : Nat) : Fin p := ((List.range p).map fun y => f (j - (j / st % p) * st + y * st) * wt p (j / st % p) y).sum
def It : Nat → (Nat → Fin p) → Nat → Fin p
  | 0, f => f
  | n + 1, f => It n (Tr (p ^ n) f)
def idx (p : Nat) : List Nat → Nat
  | [] => 0
  | k :: e => k * p ^ e.length + idx p e
theorem idx_lt : ∀ {n : Nat} {e : List Nat}, Box p n e → idx p e < p ^ n
  | 0, e, h => by
    have : e = [] := List.eq_nil_of_length_eq_zero h.1
    rw [this]
    exact Nat.zero_lt_one
  | n + 1, [], h => by simp [Box] at h
  | n + 1, k :: e, h => by
    have hl : e.length = n := by simpa using h.1
    have ih := idx_lt (n := n) (e := e) ⟨hl, fun j hj => h.2 j (by simp [hj])⟩
    have hk : k < p := h.2 k (by simp)
    show k * p ^ e.length + idx p e < _
    rw [hl, Nat.pow_succ]
    have : (k + 1) * p ^ n ≤ p ^ n * p := by
      rw [Nat.mul_comm (p ^ n)]
      exact Nat.mul_le_mul_right _ hk
    rw [Nat.add_mul] at this
    omega
theorem Tr_block {n M k r : Nat} (u : Nat → Fin p) (hk : k < p) (hr : r < p ^ n) : Tr (p ^ n) u ((M * p + k) * p ^ n + r) = ((List.range p).map fun y => u ((M * p + y) * p ^ n + r) * wt p k y).sum := by
  have hP : 0 < p ^ n := Nat.pow_pos (Nat.pos_of_ne_zero (NeZero.ne p))
  have e1 : ((M * p + k) * p ^ n + r) / p ^ n = M * p + k := by
    rw [Nat.mul_comm (M * p + k), Nat.mul_add_div hP, Nat.div_eq_of_lt hr, Nat.add_zero]
  have e2 : (M * p + k) % p = k := by rw [Nat.mul_comm, Nat.mul_add_mod, Nat.mod_eq_of_lt hk]
  unfold Tr
  rw [e1, e2]
  congr 1
  apply List.map_congr_left
  intro y _
  congr 2
  rw [Nat.add_mul, Nat.add_mul]
  omega
theorem It_block : ∀ (n M M' : Nat) (u v : Nat → Fin p), (∀ r, r < p ^ n → u (M * p ^ n + r) = v (M' * p ^ n + r)) → ∀ r, r < p ^ n → It n u (M * p ^ n + r) = It n v (M' * p ^ n + r)
  | 0, M, M', u, v, h, r, hr => h r hr
  | n + 1, M, M', u, v, h, r, hr => by
    have hp0 : 0 < p := Nat.pos_of_ne_zero (NeZero.ne p)
    have hP : 0 < p ^ n := Nat.pow_pos hp0
    have hk : r / p ^ n < p := by
      rw [Nat.div_lt_iff_lt_mul hP, Nat.mul_comm]
      rwa [Nat.pow_succ] at hr
    have hr0 : r % p ^ n < p ^ n := Nat.mod_lt _ hP
    have er : r = r / p ^ n * p ^ n + r % p ^ n := by rw [Nat.mul_comm]; exact (Nat.div_add_mod _ _).symm
    have key : ∀ N, N * p ^ (n + 1) + r = (N * p + r / p ^ n) * p ^ n + r % p ^ n := fun N => by
      conv => lhs; rw [er]
      rw [Nat.add_mul, Nat.pow_succ, Nat.mul_assoc N p, Nat.mul_comm p (p ^ n)]
      omega
    rw [key M, key M']
    show It n (Tr (p ^ n) u) _ = It n (Tr (p ^ n) v) _
    refine It_block n _ _ _ _ (fun s hs => ?_) _ hr0
    rw [Tr_block u hk hs, Tr_block v hk hs]
    congr 1
    apply List.map_congr_left
    intro y hy
    have hy := List.mem_range.mp hy
    have hb : y * p ^ n + s < p ^ (n + 1) := by
      have : (y + 1) * p ^ n ≤ p ^ n * p := by
        rw [Nat.mul_comm (p ^ n)]
        exact Nat.mul_le_mul_right _ hy
      rw [Nat.add_mul] at this
      rw [Nat.pow_succ]
      omega
    have e : ∀ N, (N * p + y) * p ^ n + s = N * p ^ (n + 1) + (y * p ^ n + s) := fun N => by
      rw [Nat.add_mul, Nat.pow_succ, Nat.mul_assoc N p, Nat.mul_comm p (p ^ n)]
      omega
    rw [e M, e M', h _ hb]
theorem sum_lin {α : Type} (f g : α → Fin p) (b : Fin p) : ∀ l : List α, (l.map fun k => f k + b * g k).sum = (l.map f).sum + b * (l.map g).sum
  | [] => by simp only [List.map_nil, List.sum_nil]; grind
  | k :: l => by
    have ih := sum_lin f g b l
    simp only [List.map_cons, List.sum_cons]
    rw [ih]
    grind
theorem It_lin : ∀ (n : Nat) (u v : Nat → Fin p) (b : Fin p) (j : Nat), It n (fun j => u j + b * v j) j = It n u j + b * It n v j
  | 0, _, _, _, _ => rfl
  | n + 1, u, v, b, j => by
    show It n (Tr (p ^ n) fun j => u j + b * v j) j = It n (Tr (p ^ n) u) j + b * It n (Tr (p ^ n) v) j
    rw [← It_lin n]
    congr 1
    funext j
    unfold Tr
    rw [← sum_lin]
    congr 1
    apply List.map_congr_left
    intro y _
    grind
theorem It_zero : ∀ (n j : Nat), It n (fun _ => (0 : Fin p)) j = 0
  | 0, _ => rfl
  | n + 1, j => by
    show It n (Tr (p ^ n) fun _ => 0) j = 0
    have e : Tr (p ^ n) (fun _ => (0 : Fin p)) = fun _ => 0 := by
      funext j
      unfold Tr
      induction List.range p with
      | nil => rfl
      | cons y l ih =>
        rw [List.map_cons, List.sum_cons, ih]
        grind
    rw [e]
    exact It_zero n j
theorem It_ev {α : Type} (S : α → Nat → Fin p) (a : Fin p) (n j : Nat) : ∀ l : List α, ev (l.map fun k => It n (S k) j) a = It n (fun j => ev (l.map fun k => S k j) a) j
  | [] => (It_zero n j).symm
  | k :: l => by
    show It n (S k) j + a * ev (l.map fun k => It n (S k) j) a = It n (fun j => S k j + a * ev (l.map fun k => S k j) a) j
    rw [It_lin, It_ev S a n j l]
theorem ev_sum {α β : Type} (F : β → Fin p) (g : α → β → Fin p) (a : Fin p) (ks : List α) : ∀ ys : List β, ev (ks.map fun k => (ys.map fun y => F y * g k y).sum) a = (ys.map fun y => F y * ev (ks.map fun k => g k y) a).sum
  | [] => ev_zeros a ks fun _ _ => rfl
  | y :: ys => by
    have ih := ev_sum F g a ks ys
    simp only [List.map_cons, List.sum_cons]
    have e : (ks.map fun k => F y * g k y + (ys.map fun y => F y * g k y).sum) = ks.map fun k => (ys.map fun y => F y * g k y).sum + F y * g k y := by
      apply List.map_congr_left
      intro k _
      grind
    rw [e, ev_lin, ih]
    grind
theorem sum_delta (F : Nat → Fin p) (a : Nat) : ∀ (m s : Nat), s ≤ a → a < s + m → ((List.range' s m).map fun y => F y * (if a = y then 1 else 0)).sum = F a
  | 0, s, h1, h2 => by omega
  | m + 1, s, h1, h2 => by
    rw [List.range'_succ, List.map_cons, List.sum_cons]
    by_cases h : a = s
    · have z : ((List.range' (s + 1) m).map fun y => F y * (if a = y then (1 : Fin p) else 0)).sum = 0 := by
        have : ∀ l : List Nat, (∀ y ∈ l, a ≠ y) → (l.map fun y => F y * (if a = y then (1 : Fin p) else 0)).sum = 0 := by
          intro l
          induction l with
          | nil => exact fun _ => rfl
          | cons y l ih =>
            intro h
            rw [List.map_cons, List.sum_cons, ih fun z hz => h z (by simp [hz]), if_neg (h y (by simp))]
            grind
        refine this _ fun y hy => ?_
        have := (List.mem_range'_1.mp hy).1
        omega
      rw [z, if_pos h, h]
      grind
    · rw [sum_delta F a m (s + 1) (by omega) (by omega), if_neg h]
      grind
/-- at one unknown the numbers are right -/
def Inv1 (p : Nat) [NeZero p] : Prop := ∀ a : Fin p, ∀ y : Fin p, ev ((List.range p).map fun k => wt p k (y : Nat)) a = if (a : Nat) = y then 1 else 0
theorem inv (h1 : Inv1 p) : ∀ (x : List (Fin p)) (f : Nat → Fin p), V (fun e => It x.length f (idx p e)) x = f (idx p (x.map (·.val)))
  | [], f => rfl
  | a :: x, f => by
    show V (sub1 (fun e => It (x.length + 1) f (idx p e)) a) x = f ((a : Nat) * p ^ (x.map (·.val)).length + idx p (x.map (·.val)))
    rw [List.length_map, ← inv h1 x fun j => f ((a : Nat) * p ^ x.length + j)]
    refine V_congr fun e he => ?_
    have hj := idx_lt he
    show ev ((List.range p).map fun k => It (x.length + 1) f (k * p ^ e.length + idx p e)) a = _
    rw [he.1]
    have e1 : ((List.range p).map fun k => It (x.length + 1) f (k * p ^ x.length + idx p e)) = (List.range p).map fun k => It x.length (fun j => ((List.range p).map fun y => f (y * p ^ x.length + j) * wt p k y).sum) (idx p e) := by
      apply List.map_congr_left
      intro k hk
      have hk := List.mem_range.mp hk
      show It x.length (Tr (p ^ x.length) f) _ = _
      have q := It_block x.length k 0 (Tr (p ^ x.length) f) (fun j => ((List.range p).map fun y => f (y * p ^ x.length + j) * wt p k y).sum) (fun r hr => by
        have t := Tr_block (M := 0) f hk hr
        rw [Nat.zero_mul, Nat.zero_add] at t
        rw [t, Nat.zero_mul, Nat.zero_add]
        congr 1
        apply List.map_congr_left
        intro y _
        rw [Nat.zero_add]) (idx p e) hj
      rw [Nat.zero_mul, Nat.zero_add] at q
      exact q
    rw [e1, It_ev]
    have q := It_block x.length 0 0 (fun j => ev ((List.range p).map fun k => ((List.range p).map fun y => f (y * p ^ x.length + j) * wt p k y).sum) a) (fun j => f ((a : Nat) * p ^ x.length + j)) (fun r hr => by
      rw [Nat.zero_mul, Nat.zero_add, ev_sum]
      have e2 : ((List.range p).map fun y => f (y * p ^ x.length + r) * ev ((List.range p).map fun k => wt p k y) a) = (List.range p).map fun y => f (y * p ^ x.length + r) * (if (a : Nat) = y then 1 else 0) := by
        apply List.map_congr_left
        intro y hy
        rw [← h1 a ⟨y, List.mem_range.mp hy⟩]
      rw [e2, List.range_eq_range']
      exact sum_delta (fun y => f (y * p ^ x.length + r)) a p 0 (Nat.zero_le _) (by have := a.isLt; omega)) (idx p e) hj
    rw [Nat.zero_mul, Nat.zero_add] at q
    exact q
end
theorem inv2 : Inv1 2 := by unfold Inv1; decide +kernel
theorem inv3 : Inv1 3 := by unfold Inv1; decide +kernel
theorem inv5 : Inv1 5 := by unfold Inv1; decide +kernel
theorem inv7 : Inv1 7 := by unfold Inv1; decide +kernel
theorem inv11 : Inv1 11 := by unfold Inv1; decide +kernel
theorem inv13 : Inv1 13 := by unfold Inv1; decide +kernel
end Rm
end

section
set_option Elab.async false
set_option linter.all false
/-! The law's own reckoning in whole numbers. -/
namespace Rm
/-- the entry at a place -/
def gi (l : List Int) (i : Nat) : Int := l.getD i 0
def ptsI (p : Nat) : Nat → List (List Int)
  | 0 => [[]]
  | n + 1 => (ptsI p n).flatMap fun x => (List.range p).map fun a : Nat => x ++ [(a : Int)]
theorem ptsI_len (p : Nat) : ∀ n, (ptsI p n).length = p ^ n
  | 0 => rfl
  | n + 1 => by
    rw [ptsI, Nat.pow_succ, ← ptsI_len p n]
    generalize ptsI p n = l
    induction l with
    | nil => simp
    | cons x l ih => rw [List.flatMap_cons, List.length_append, ih, List.length_map, List.length_range, List.length_cons, Nat.add_mul]; omega
theorem ptsI_mem {p : Nat} : ∀ {n : Nat} {x : List Int}, x ∈ ptsI p n → x.length = n ∧ ∀ a ∈ x, 0 ≤ a ∧ a < (p : Int)
  | 0, x, h => by
    rw [ptsI, List.mem_singleton] at h
    subst h
    exact ⟨rfl, fun a ha => by simp at ha⟩
  | n + 1, x, h => by
    rw [ptsI, List.mem_flatMap] at h
    obtain ⟨y, hy, h⟩ := h
    obtain ⟨a, ha, rfl⟩ := List.mem_map.mp h
    obtain ⟨h1, h2⟩ := ptsI_mem hy
    have ha := List.mem_range.mp ha
    refine ⟨by simp [h1], fun b hb => ?_⟩
    rcases List.mem_append.mp hb with hb | hb
    · exact h2 b hb
    · rw [List.mem_singleton] at hb
      subst hb
      omega
def mulP (p a : Int) (k : Nat) (n : Int) : Int := (List.range k).foldl (fun t _ => t * a % p) n
def monR (p : Int) (e x : List Int) : Int := (List.range x.length).foldl (fun n i => mulP p (gi x i) (gi e i).toNat n) 1
def valR (p : Int) (ts : List (List Int × Int)) (x : List Int) : Int := (ts.foldl (fun t q => t + q.2 * monR p q.1 x) 0) % p
def placesR (p : Int) (ts : List (List Int × Int)) (ps : List (List Int)) : Nat := (ps.filter fun x => decide (valR p ts x ≠ 0)).length
def wtI (p : Int) (k y : Nat) : Int := if k = 0 then (if y = 0 then 1 else 0) else - mulP p y (p - 1 - k).toNat 1
def trI (p st : Nat) (l : List Int) : List Int := (List.range l.length).map fun j => ((List.range p).map fun y => gi l (j - (j / st % p) * st + y * st) * wtI p (j / st % p) y).sum % (p : Int)
def itI (p : Nat) : Nat → List Int → List Int
  | 0, l => l
  | n + 1, l => itI p n (trI p (p ^ n) l)
theorem gi_set {l : List Int} {j : Nat} {v : Int} (h : j < l.length) : gi (l.set j v) j = v := by
  unfold gi
  simp [List.getD, h]
theorem set_sum (j : Nat) (F : Nat → Int) : ∀ (ys : List Nat) (t : List Int), j < t.length → ys.foldl (fun t y => t.set j (gi t j + F y)) t = t.set j (gi t j + (ys.map F).sum)
  | [], t, h => by
    rw [List.foldl_nil, List.map_nil, List.sum_nil, Int.add_zero]
    apply List.ext_getElem?
    intro i
    by_cases hi : j = i
    · subst hi
      rw [List.getElem?_set_self h]
      unfold gi
      simp [List.getD, List.getElem?_eq_getElem h]
    · rw [List.getElem?_set_ne hi]
  | y :: ys, t, h => by
    rw [List.foldl_cons, set_sum j F ys _ (by simpa using h), gi_set h, List.set_set, List.map_cons, List.sum_cons, Int.add_assoc]
theorem set_all (S : Nat → Int) (N : Nat) : ∀ k, k ≤ N → (List.range k).foldl (fun t j => t.set j (gi t j + S j)) (List.replicate N 0) = (List.range k).map S ++ List.replicate (N - k) 0
  | 0, _ => by simp
  | k + 1, h => by
    rw [List.range_succ, List.foldl_append, set_all S N k (by omega), List.map_append]
    show ((List.range k).map S ++ List.replicate (N - k) 0).set k (gi ((List.range k).map S ++ List.replicate (N - k) 0) k + S k) = _
    have e : N - k = N - (k + 1) + 1 := by omega
    have e0 : gi ((List.range k).map S ++ List.replicate (N - k) 0) k = 0 := by
      unfold gi
      rw [e, List.replicate_succ]
      simp [List.getD, List.getElem?_append_right]
    rw [e0, e, List.replicate_succ, Int.zero_add, List.set_append_right _ _ (by simp)]
    simp
def trmsR (p s : Nat) (tb : List Int) : List (List Int × Int) := ((List.range (p ^ s)).filter fun j => decide (gi (itI p s tb) j ≠ 0)).map fun j => ((ptsI p s).getD j [], gi (itI p s tb) j)
theorem trI_len (p st : Nat) (l : List Int) : (trI p st l).length = l.length := by simp [trI]
theorem itI_len (p : Nat) : ∀ (n : Nat) (l : List Int), (itI p n l).length = l.length
  | 0, _ => rfl
  | n + 1, l => by rw [itI, itI_len p n, trI_len]
theorem trI_bd (p st : Nat) (hp : 0 < p) (l : List Int) : ∀ x ∈ trI p st l, 0 ≤ x ∧ x < (p : Int) := fun x hx => by
  obtain ⟨j, _, rfl⟩ := List.mem_map.mp hx
  exact ⟨Int.emod_nonneg _ (by omega), Int.emod_lt_of_pos _ (by omega)⟩
theorem itI_bd (p : Nat) (hp : 0 < p) : ∀ (n : Nat) (l : List Int), (∀ x ∈ l, 0 ≤ x ∧ x < (p : Int)) → ∀ x ∈ itI p n l, 0 ≤ x ∧ x < (p : Int)
  | 0, _, h => h
  | n + 1, l, h => itI_bd p hp n _ (trI_bd p _ hp l)
/-- the places that one transform reads -/
theorem place_lt {p n k j y : Nat} (hk : k < n) (hj : j < p ^ n) (hy : y < p) : j / p ^ k % p * p ^ k ≤ j ∧ j - j / p ^ k % p * p ^ k + y * p ^ k < p ^ n := by
  have hp : 0 < p := by omega
  have hP : 0 < p ^ k := Nat.pow_pos hp
  obtain ⟨r, hr⟩ : ∃ r, n = k + 1 + r := ⟨n - (k + 1), by omega⟩
  have e1 : j = j / p ^ k * p ^ k + j % p ^ k := by rw [Nat.mul_comm]; exact (Nat.div_add_mod _ _).symm
  have e2 : j / p ^ k = j / p ^ k / p * p + j / p ^ k % p := by rw [Nat.mul_comm]; exact (Nat.div_add_mod _ _).symm
  have m1 := Nat.mod_lt j hP
  have q1 : j / p ^ k / p < p ^ r := by
    rw [Nat.div_div_eq_div_mul, Nat.div_lt_iff_lt_mul (Nat.mul_pos hP hp)]
    have : p ^ r * (p ^ k * p) = p ^ n := by
      rw [hr, Nat.pow_add, Nat.pow_succ, Nat.mul_comm]
    rwa [this]
  generalize hd : j / p ^ k = d at *
  generalize hu : d / p = u at *
  generalize hv : d % p = v at *
  have e3 : j = u * p * p ^ k + v * p ^ k + j % p ^ k := by rw [e2, Nat.add_mul] at e1; exact e1
  have e4 : (u + 1) * p * p ^ k ≤ p ^ n := by
    have : p ^ n = p ^ r * p * p ^ k := by
      rw [hr, Nat.pow_add, Nat.pow_succ, Nat.mul_comm, Nat.mul_comm (p ^ k) p, Nat.mul_assoc]
    rw [this]
    exact Nat.mul_le_mul_right _ (Nat.mul_le_mul_right _ q1)
  have e5 : (y + 1) * p ^ k ≤ p * p ^ k := Nat.mul_le_mul_right _ hy
  rw [Nat.add_mul, Nat.one_mul, Nat.add_mul] at e4
  rw [Nat.add_mul] at e5
  generalize j % p ^ k = z at *
  omega
end Rm
end

section
set_option Elab.async false
set_option linter.all false
set_option maxRecDepth 100000
set_option maxHeartbeats 4000000
namespace K04
open PySem PySem.Spec PyProof.Rows Dp Rm
theorem gi_ga (l : List Int) (i : Nat) : gi l i = ga l i := rfl
theorem tadd (a b : List D) (m : Mu) (h : a.length + b.length ≤ 9000) : opB .add (.tup a) (.tup b) m = .ok (.val (.tup (a ++ b))) m := by
  show guardR (decide (a.length + b.length ≤ sizeLine)) _ = _
  rw [decide_eq_true (szl h)]
  rfl
theorem ladd (a b : List D) (m : Mu) (h : a.length + b.length ≤ 9000) : opB .add (.lst a) (.lst b) m = .ok (.own (.lst (a ++ b))) m := by
  show guardR (decide (a.length + b.length ≤ sizeLine)) _ = _
  rw [decide_eq_true (szl h)]
  rfl
/-! ### the points -/
abbrev sn (P : Nat) (x : List Int) : List (List Int) := (List.range P).map fun a : Nat => x ++ [(a : Int)]
theorem l_13a (n : Nat) (m : Mu) (P : Nat) (hP : P ≤ 13) (s : SV) (L : List (List Int)) (t3 : Option SV) (hL : L.length ≤ 500) (hx : ∀ x ∈ L, x.length ≤ 100) :
    forL [5] (bodyF (callN G n) (.nm 5) l_13_0) (L.map pt) [some (.val (.int (P : Nat))), some s, some (.val (pl L)), t3, some (.own (.lst [])), none, none] m = .nx [some (.val (.int (P : Nat))), some s, some (.val (pl L)), t3, some (.own (.lst ((L.flatMap (sn P)).map pt))), none, none] m := by
  obtain ⟨acc, ⟨h1, _⟩, h2⟩ := forL_ex (fg := [5]) (F := bodyF (callN G n) (.nm 5) l_13_0) pt (fun b : List (List Int) => [some (.val (.int (P : Nat))), some s, some (.val (pl L)), t3, some (.own (.lst (b.map pt))), none, none]) (fun _ => m) (fun xs b => b ++ xs.flatMap (sn P) = L.flatMap (sn P) ∧ b.length + 13 * xs.length ≤ 6500 ∧ ∀ x ∈ xs, x.length ≤ 100)
    (fun x xs b hb => by
      obtain ⟨g1, g2, g3⟩ := hb
      rw [List.length_cons] at g2
      have hx := g3 x (by simp)
      have r := r62_nat (n := P) (by omega)
      have lk := lcL_mapf (m := m) (F := lcF (callN G n) [some (.val (.int (P : Nat))), some s, some (.val (pl L)), t3, some (.own (.lst (b.map pt))), some (.val (pt x)), none] (.nm 6) .none (.bin .add (.e (.var 5)) (.e (.tup (.cons (.var 6) .nil))))) (fun i : Nat => D.int (i : Nat)) (fun i : Nat => pt (x ++ [(i : Int)])) (List.range P) [] (by simp; omega) (fun i hi => by
        have z1 : (1 : Nat) ≤ sizeLine := szl (by decide)
        have ta := tadd (x.map .int) [.int (i : Nat)] m (by simp; omega)
        simp -implicitDefEqProofs [↓evS_for, ↓evE_lc, ↓evE_lcd, ↓evE_lco, ↓evE_dc, evSs, evS, evE, evEs, evP, evPs, evI, evB, evBor, evBand, evO, evOB, evAnd, bindT, wipeS, lcF, z1, ta])
      have hlen : (sn P x).length = P := by simp
      have la := ladd (b.map pt) ((sn P x).map pt) m (by rw [List.length_map, List.length_map, hlen]; omega)
      refine ⟨b ++ sn P x, ⟨by rw [← g1]; simp, by rw [List.length_append, hlen]; omega, fun y hy => g3 y (by simp [hy])⟩, [some (.val (.int (P : Nat))), some s, some (.val (pl L)), t3, some (.own (.lst ((b ++ sn P x).map pt))), some (.val (pt x)), none], ?_, rfl⟩
      have e : (sn P x).map pt = (List.range P).map fun i : Nat => pt (x ++ [(i : Int)]) := by rw [List.map_map]; rfl
      rw [e] at la
      simp only [List.nil_append] at lk
      simp -implicitDefEqProofs [↓evS_for, ↓evE_lc, ↓evE_lcd, ↓evE_lco, ↓evE_dc, evSs, evS, evE, evEs, evP, evPs, evI, evB, evBor, evBand, evO, evOB, evAnd, bindT, wipeS, bodyF, l_13_0, r, lk, la])
    L [] ⟨by simp, by simp; omega, hx⟩
  simp only [List.flatMap_nil, List.append_nil] at h1
  rw [← h1]
  exact h2
theorem c_13 (n : Nat) (m : Mu) (P : Nat) (hP : 1 ≤ P ∧ P ≤ 13) (s : Nat) (hs : s ≤ 90) (hb : P ^ s ≤ 200) : callN G (n + 1) 13 [.int (P : Nat), .int (s : Nat)] m = .ok (.own (.lst ((ptsI P s).map pt))) m := by
  obtain ⟨k, hk, key⟩ := forL_ex (fg := [3, 4, 5]) (F := bodyF (callN G n) (.nm 3) l_13_1) (fun i : Nat => D.int (i : Nat)) (fun k : Nat => [some (.val (.int (P : Nat))), some (.val (.int (s : Nat))), some (.own (.lst ((ptsI P k).map pt))), none, none, none, none]) (fun _ => m) (fun xs k => k + xs.length = s)
    (fun x xs k hk => by
      rw [List.length_cons] at hk
      have h1 : (ptsI P k).length ≤ 200 := by
        rw [ptsI_len]
        exact Nat.le_trans (Nat.pow_le_pow_right hP.1 (by omega)) hb
      have h0 : ∀ y ∈ ptsI P k, y.length ≤ 100 := fun y hy => by rw [(ptsI_mem hy).1]; omega
      have q := l_13a n m P hP.2 (.val (.int (s : Nat))) (ptsI P k) (some (.val (.int (x : Nat)))) (by omega) h0
      refine ⟨k + 1, by omega, [some (.val (.int (P : Nat))), some (.val (.int (s : Nat))), some (.own (.lst ((ptsI P (k + 1)).map pt))), some (.val (.int (x : Nat))), none, none, none], ?_, rfl⟩
      rw [ptsI]
      simp -implicitDefEqProofs [↓evS_for, ↓evE_lc, ↓evE_lcd, ↓evE_lco, ↓evE_dc, evSs, evS, evE, evEs, evP, evPs, evI, evB, evBor, evBand, evO, evOB, evAnd, bindT, wipeS, bodyF, l_13_1, q])
    (List.range s) 0 (by simp)
  have hk : k = s := by simpa using hk
  subst hk
  have r := r62_nat (n := k) (by omega)
  have e0 : (ptsI P 0).map pt = [.tup []] := rfl
  rw [e0] at key
  have z1 : (1 : Nat) ≤ sizeLine := szl (by decide)
  rw [o_13]
  simp -implicitDefEqProofs [↓evS_for, ↓evE_lc, ↓evE_lcd, ↓evE_lco, ↓evE_dc, evSs, evS, evE, evEs, evP, evPs, evI, evB, evBor, evBand, evO, evOB, evAnd, bindT, wipeS, b_13, r, key, z1]
/-! ### values -/
theorem c_35 (n : Nat) (m : Mu) (p : Int) (hp : 0 < p) (e x : List Int) (he : e.length = x.length) (he2 : ∀ k ∈ e, 0 ≤ k ∧ k ≤ 100) (hx : ∀ a ∈ x, 0 ≤ a ∧ a ≤ 1000) (hl : x.length ≤ 100) : callN G (n + 1) 35 [.int p, pt e, pt x] m = .ok (.val (.int (monR p e x))) m := by
  have key := forL_runf (m := m) (fg := [4, 5]) (F := bodyF (callN G n) (.nm 4) l_35_1) (fun i : Nat => D.int (i : Nat)) (fun t : Int => [some (.val (.int p)), some (.val (pt e)), some (.val (pt x)), some (.val (.int t)), none, none]) (fun t i => mulP p (gi x i) (gi e i).toNat t) (fun _ => True) (List.range x.length) 1 trivial (fun t i hi _ => by
    have hi := List.mem_range.mp hi
    have i1 : ga x i ∈ x := by unfold ga; rw [List.getD, List.getElem?_eq_getElem hi]; exact List.getElem_mem _
    have i2 : ga e i ∈ e := by unfold ga; rw [List.getD, List.getElem?_eq_getElem (by omega)]; exact List.getElem_mem _
    have a1 := hx _ i1
    have a2 := he2 _ i2
    have x1 := ix_pt (m := m) hi
    have x2 := ix_pt (l := e) (i := i) (m := m) (by omega)
    have inner := forL_runf (m := m) (fg := [5]) (F := bodyF (callN G n) (.nm 5) l_35_0) (fun i : Nat => D.int (i : Nat)) (fun t : Int => [some (.val (.int p)), some (.val (pt e)), some (.val (pt x)), some (.val (.int t)), some (.val (.int (i : Nat))), none]) (fun t _ => t * ga x i % p) (fun _ => True) (List.range (ga e i).toNat) t trivial (fun t j hj _ => by
      have b1 := b_mulS (i := t) (j := ga x i) (m := m) (by omega) (by omega)
      have b2 := b_mod (i := t * ga x i) (j := p) (m := m) hp
      exact ⟨trivial, [some (.val (.int p)), some (.val (pt e)), some (.val (pt x)), some (.val (.int (t * ga x i % p))), some (.val (.int (i : Nat))), some (.val (.int (j : Nat)))], (by simp -implicitDefEqProofs [↓evS_for, ↓evE_lc, ↓evE_lcd, ↓evE_lco, ↓evE_dc, evSs, evS, evE, evEs, evP, evPs, evI, evB, evBor, evBand, evO, evOB, evAnd, bindT, wipeS, bodyF, l_35_0, x1, b1, b2]), rfl⟩)
    have r : r62 (ga e i) = true := r62_of (by omega) (by omega)
    refine ⟨trivial, [some (.val (.int p)), some (.val (pt e)), some (.val (pt x)), some (.val (.int (mulP p (gi x i) (gi e i).toNat t))), some (.val (.int (i : Nat))), none], ?_, rfl⟩
    unfold mulP
    rw [gi_ga, gi_ga]
    simp -implicitDefEqProofs [↓evS_for, ↓evE_lc, ↓evE_lcd, ↓evE_lco, ↓evE_dc, evSs, evS, evE, evEs, evP, evPs, evI, evB, evBor, evBand, evO, evOB, evAnd, bindT, wipeS, bodyF, l_35_1, x2, r, inner])
  have r := r62_nat (n := x.length) (by omega)
  rw [o_35]
  unfold monR
  simp -implicitDefEqProofs [↓evS_for, ↓evE_lc, ↓evE_lcd, ↓evE_lco, ↓evE_dc, evSs, evS, evE, evEs, evP, evPs, evI, evB, evBor, evBand, evO, evOB, evAnd, bindT, wipeS, b_35, r, key]
/-- a term -/
abbrev tmD (q : List Int × Int) : D := .tup [pt q.1, .int q.2]
/-- the terms of a polynomial in w unknowns -/
def TmOk (w : Nat) (ts : List (List Int × Int)) : Prop := ∀ q ∈ ts, q.1.length = w ∧ (∀ k ∈ q.1, 0 ≤ k ∧ k ≤ 100) ∧ -1000 ≤ q.2 ∧ q.2 ≤ 1000
def PtOk (w : Nat) (x : List Int) : Prop := x.length = w ∧ ∀ a ∈ x, 0 ≤ a ∧ a ≤ 1000
theorem c_34 (n : Nat) (m : Mu) (p : Int) (hp : 0 < p) (w : Nat) (hw : w ≤ 100) (ts : List (List Int × Int)) (ht : TmOk w ts) (x : List Int) (hx : PtOk w x) (d : D) (hd : d = .lst (ts.map tmD) ∨ d = .tup (ts.map tmD)) : callN G (n + 2) 34 [.int p, d, pt x] m = .ok (.val (.int (valR p ts x))) m := by
  have key := forL_runf (m := m) (fg := [4, 5]) (F := bodyF (callN G (n + 1)) (.tp [4, 5]) l_34_0) tmD (fun t : Int => [some (.val (.int p)), some (.val d), some (.val (pt x)), some (.val (.int t)), none, none]) (fun t q => t + q.2 * monR p q.1 x) (fun _ => True) ts 0 trivial (fun t q hq _ => by
    obtain ⟨h1, h2, h3, h4⟩ := ht q hq
    have c := c_35 n m p hp q.1 x (by rw [h1, hx.1]) h2 hx.2 (by rw [hx.1]; exact hw)
    have b1 := b_mul (i := q.2) (j := monR p q.1 x) (m := m) (.inl ⟨by omega, by omega⟩)
    exact ⟨trivial, [some (.val (.int p)), some (.val d), some (.val (pt x)), some (.val (.int (t + q.2 * monR p q.1 x))), some (.val (pt q.1)), some (.val (.int q.2))], (by simp -implicitDefEqProofs [↓evS_for, ↓evE_lc, ↓evE_lcd, ↓evE_lco, ↓evE_dc, evSs, evS, evE, evEs, evP, evPs, evI, evB, evBor, evBand, evO, evOB, evAnd, bindT, wipeS, bodyF, l_34_0, c, b1]), rfl⟩)
  have b2 := b_mod (i := ts.foldl (fun t q => t + q.2 * monR p q.1 x) 0) (j := p) (m := m) hp
  rw [o_34]
  unfold valR
  rcases hd with rfl | rfl <;> simp -implicitDefEqProofs [↓evS_for, ↓evE_lc, ↓evE_lcd, ↓evE_lco, ↓evE_dc, evSs, evS, evE, evEs, evP, evPs, evI, evB, evBor, evBand, evO, evOB, evAnd, bindT, wipeS, b_34, key, b2]
theorem c_33 (n : Nat) (m : Mu) (p : Int) (hp : 0 < p) (w : Nat) (hw : w ≤ 100) (ts : List (List Int × Int)) (ht : TmOk w ts) (ps : List (List Int)) (hx : ∀ x ∈ ps, PtOk w x) (hl : ps.length ≤ 9000) (d : D) (hd : d = .lst (ts.map tmD) ∨ d = .tup (ts.map tmD)) : callN G (n + 3) 33 [.int p, d, pl ps] m = .ok (.val (.int (placesR p ts ps : Nat))) m := by
  have lk := lcL_filterf (m := m) (F := lcF (callN G (n + 2)) [some (.val (.int p)), some (.val d), some (.val (pl ps)), none] (.nm 3) (.some (.cmp .ne (.e (.call 34 (.cons (.var 0) (.cons (.var 1) (.cons (.var 3) .nil))))) (.e (.int 0)))) (.var 3)) (fun x => decide (valR p ts x ≠ 0)) pt pt ps [] (by simpa using hl) (fun x hx2 => by
    have c := c_34 n m p hp w hw ts ht x (hx x hx2) d hd
    by_cases hz : valR p ts x = 0 <;> simp -implicitDefEqProofs [↓evS_for, ↓evE_lc, ↓evE_lcd, ↓evE_lco, ↓evE_dc, evSs, evS, evE, evEs, evP, evPs, evI, evB, evBor, evBand, evO, evOB, evAnd, bindT, wipeS, lcF, c, hz])
  simp only [List.nil_append] at lk
  rw [o_33]
  unfold placesR
  simp -implicitDefEqProofs [↓evS_for, ↓evE_lc, ↓evE_lcd, ↓evE_lco, ↓evE_dc, evSs, evS, evE, evEs, evP, evPs, evI, evB, evBor, evBand, evO, evOB, evAnd, bindT, wipeS, b_33, lk]
theorem c_38 (n : Nat) (m : Mu) (p : Int) (hp : 0 < p ∧ p ≤ 13) (k y : Nat) (hk : k < p) (hy : y ≤ 1000) : callN G (n + 1) 38 [.int p, .int (k : Nat), .int (y : Nat)] m = .ok (.val (.int (wtI p k y))) m := by
  rw [o_38]
  unfold wtI
  by_cases h0 : k = 0
  · subst h0
    by_cases hy0 : y = 0
    · subst hy0
      rfl
    · have : ((y : Int) = 0) = False := eq_false (by omega)
      rw [if_pos rfl, if_neg hy0]
      simp -implicitDefEqProofs [↓evS_for, ↓evE_lc, ↓evE_lcd, ↓evE_lco, ↓evE_dc, evSs, evS, evE, evEs, evP, evPs, evI, evB, evBor, evBand, evO, evOB, evAnd, bindT, wipeS, b_38, hy0, opF]
  · obtain ⟨q, hq⟩ : ∃ q : Nat, p - 1 - (k : Int) = (q : Int) := ⟨(p - 1 - (k : Int)).toNat, by omega⟩
    have key := forL_runf (m := m) (fg := [4]) (F := bodyF (callN G n) (.nm 4) l_38_0) (fun i : Nat => D.int (i : Nat)) (fun t : Int => [some (.val (.int p)), some (.val (.int (k : Nat))), some (.val (.int (y : Nat))), some (.val (.int t)), none]) (fun t _ => t * (y : Int) % p) (fun _ => True) (List.range q) 1 trivial (fun t j hj _ => by
      have b1 := b_mulS (i := t) (j := (y : Int)) (m := m) (by omega) (by omega)
      have b2 := b_mod (i := t * (y : Int)) (j := p) (m := m) hp.1
      exact ⟨trivial, [some (.val (.int p)), some (.val (.int (k : Nat))), some (.val (.int (y : Nat))), some (.val (.int (t * (y : Int) % p))), some (.val (.int (j : Nat)))], (by simp -implicitDefEqProofs [↓evS_for, ↓evE_lc, ↓evE_lcd, ↓evE_lco, ↓evE_dc, evSs, evS, evE, evEs, evP, evPs, evI, evB, evBor, evBand, evO, evOB, evAnd, bindT, wipeS, bodyF, l_38_0, b1, b2]), rfl⟩)
    have r : r62 (q : Int) = true := r62_of (by omega) (by omega)
    rw [if_neg h0]
    unfold mulP
    rw [hq, Int.toNat_natCast]
    simp -implicitDefEqProofs [↓evS_for, ↓evE_lc, ↓evE_lcd, ↓evE_lco, ↓evE_dc, evSs, evS, evE, evEs, evP, evPs, evI, evB, evBor, evBand, evO, evOB, evAnd, bindT, wipeS, b_38, h0, hq, r, key]
end K04
end

section
set_option Elab.async false
set_option linter.all false
set_option maxRecDepth 100000
set_option maxHeartbeats 4000000
namespace K04
open PySem PySem.Spec PyProof.Rows Dp Rm
/-! ### the numbers from the values -/
theorem ixN_nat {n j : Nat} (h : j < n) : L2.ixN n (j : Int) = some j := by
  unfold L2.ixN
  rw [if_pos (by omega), if_pos (by omega)]
  rfl
theorem at_ls {l : List Int} {j : Nat} (h : j < l.length) : L2.atI (l.map D.int) (j : Int) = some (.int (gi l j)) := atI_nat (by simp [h, gi])
theorem set_ls {l : List Int} {j : Nat} {v : Int} (h : j < l.length) : opSet (.lst (l.map D.int)) (.int (j : Nat)) (.int v) = some (.lst ((l.set j v).map .int)) := by
  show (match L2.ixN (l.map D.int).length (j : Int) with | some j => some (Cell.lst ((l.map D.int).set j (.int v))) | none => none) = _
  rw [List.length_map, ixN_nat h]
  dsimp only
  rw [List.map_set]
theorem gi_mem {l : List Int} {j : Nat} (h : j < l.length) : gi l j ∈ l := by
  unfold gi
  rw [List.getD, List.getElem?_eq_getElem h]
  exact List.getElem_mem _
theorem l_37a (n : Nat) (m : Mu) (P : Nat) (hP : 2 ≤ P ∧ P ≤ 13) (x1 x2 x3 : SV) (nums : List Int) (st : Nat) (hst : 0 < st ∧ st ≤ 1000) (y6 : Option SV) (t : List Int) (j dg fs : Nat) (hj : j < t.length) (hdg : dg < P) (hfs : fs ≤ 1000) (hin : ∀ y, y < P → fs + y * st < nums.length) (hb : ∀ x ∈ nums, -1000 ≤ x ∧ x ≤ 1000) (y11 : Option SV) :
    ∃ y11' : Option SV, forL [] (bodyF (callN G (n + 1)) (.nm 11) l_37_0) ((List.range P).map fun i : Nat => D.int (i : Nat)) [some (.val (.int (P : Nat))), some x1, some x2, some x3, some (.val (.lst (nums.map .int))), some (.val (.int (st : Nat))), y6, some (.own (.lst (t.map .int))), some (.val (.int (j : Nat))), some (.val (.int (dg : Nat))), some (.val (.int (fs : Nat))), y11] m
      = .nx [some (.val (.int (P : Nat))), some x1, some x2, some x3, some (.val (.lst (nums.map .int))), some (.val (.int (st : Nat))), y6, some (.own (.lst ((t.set j (gi t j + ((List.range P).map fun y => gi nums (fs + y * st) * wtI P dg y).sum)).map .int))), some (.val (.int (j : Nat))), some (.val (.int (dg : Nat))), some (.val (.int (fs : Nat))), y11'] m := by
  obtain ⟨⟨t', y'⟩, ⟨h1, _⟩, h2⟩ := forL_ex (fg := []) (F := bodyF (callN G (n + 1)) (.nm 11) l_37_0) (fun i : Nat => D.int (i : Nat)) (fun b : List Int × Option SV => [some (.val (.int (P : Nat))), some x1, some x2, some x3, some (.val (.lst (nums.map .int))), some (.val (.int (st : Nat))), y6, some (.own (.lst (b.1.map .int))), some (.val (.int (j : Nat))), some (.val (.int (dg : Nat))), some (.val (.int (fs : Nat))), b.2]) (fun _ => m)
    (fun xs b => xs.foldl (fun t y => t.set j (gi t j + gi nums (fs + y * st) * wtI P dg y)) b.1 = t.set j (gi t j + ((List.range P).map fun y => gi nums (fs + y * st) * wtI P dg y).sum) ∧ b.1.length = t.length ∧ ∀ y ∈ xs, y < P)
    (fun y xs b hb2 => by
      obtain ⟨g1, g2, g3⟩ := hb2
      have hy := g3 y (by simp)
      have hi := hin y hy
      have b1 := b_mulS (i := (y : Int)) (j := (st : Int)) (m := m) (by omega) (by omega)
      have e1 : (fs : Int) + (y : Int) * (st : Int) = ((fs + y * st : Nat) : Int) := by simp
      have x1 := ix_ls (l := nums) (m := m) hi
      have bb := hb _ (gi_mem hi)
      have c := c_38 n m P (by omega) dg y (by omega) (by omega)
      have b2 := b_mul (i := gi nums (fs + y * st)) (j := wtI P dg y) (m := m) (.inl ⟨by omega, by omega⟩)
      have hj2 : j < b.1.length := by omega
      have a1 := at_ls hj2
      have s1 := set_ls (v := gi b.1 j + gi nums (fs + y * st) * wtI P dg y) hj2
      rw [← gi_ga] at x1
      generalize hk : fs + y * st = k at *
      refine ⟨(b.1.set j (gi b.1 j + gi nums k * wtI P dg y), some (.val (.int (y : Nat)))), ⟨by rw [← g1, List.foldl_cons, hk], by rw [List.length_set]; exact g2, fun z hz => g3 z (by simp [hz])⟩, _, ?_, rfl⟩
      simp -implicitDefEqProofs [↓evS_for, ↓evE_lc, ↓evE_lcd, ↓evE_lco, ↓evE_dc, evSs, evS, evE, evEs, evP, evPs, evI, evB, evBor, evBand, evO, evOB, evAnd, bindT, wipeS, bodyF, l_37_0, isL, a1, b1, e1, x1, c, b2, chgO, s1])
    (List.range P) (t, y11) ⟨set_sum j _ _ t hj, rfl, fun y hy => List.mem_range.mp hy⟩
  rw [List.foldl_nil] at h1
  dsimp only at h1 h2
  rw [h1] at h2
  exact ⟨y', h2⟩
theorem l_37b (n : Nat) (m : Mu) (P : Nat) (hP : 2 ≤ P ∧ P ≤ 13) (x1 x2 x3 : SV) (nums : List Int) (k s : Nat) (hk : k < s) (hN : nums.length = P ^ s) (hN2 : P ^ s ≤ 200) (y6 : Option SV) (hb : ∀ x ∈ nums, -1000 ≤ x ∧ x ≤ 1000) (y11 : Option SV) :
    ∃ y11' : Option SV, forL [8, 9, 10] (bodyF (callN G (n + 1)) (.nm 8) l_37_1) ((List.range nums.length).map fun i : Nat => D.int (i : Nat)) [some (.val (.int (P : Nat))), some x1, some x2, some x3, some (.val (.lst (nums.map .int))), some (.val (.int (P ^ k : Nat))), y6, some (.own (.lst ((List.replicate nums.length (0 : Int)).map .int))), none, none, none, y11] m
      = .nx [some (.val (.int (P : Nat))), some x1, some x2, some x3, some (.val (.lst (nums.map .int))), some (.val (.int (P ^ k : Nat))), y6, some (.own (.lst (((List.range nums.length).map fun j => ((List.range P).map fun y => gi nums (j - (j / P ^ k % P) * P ^ k + y * P ^ k) * wtI P (j / P ^ k % P) y).sum).map .int))), none, none, none, y11'] m := by
  have hpk : P ^ k ≤ 200 := Nat.le_trans (Nat.pow_le_pow_right (by omega) (by omega)) hN2
  have hpk0 : 0 < P ^ k := Nat.pow_pos (by omega)
  obtain ⟨⟨t', y'⟩, ⟨h1, _⟩, h2⟩ := forL_ex (fg := [8, 9, 10]) (F := bodyF (callN G (n + 1)) (.nm 8) l_37_1) (fun i : Nat => D.int (i : Nat)) (fun b : List Int × Option SV => [some (.val (.int (P : Nat))), some x1, some x2, some x3, some (.val (.lst (nums.map .int))), some (.val (.int (P ^ k : Nat))), y6, some (.own (.lst (b.1.map .int))), none, none, none, b.2]) (fun _ => m)
    (fun xs b => xs.foldl (fun t j => t.set j (gi t j + ((List.range P).map fun y => gi nums (j - (j / P ^ k % P) * P ^ k + y * P ^ k) * wtI P (j / P ^ k % P) y).sum)) b.1 = ((List.range nums.length).map fun j => ((List.range P).map fun y => gi nums (j - (j / P ^ k % P) * P ^ k + y * P ^ k) * wtI P (j / P ^ k % P) y).sum) ∧ b.1.length = nums.length ∧ ∀ y ∈ xs, y < nums.length)
    (fun j xs b hb2 => by
      obtain ⟨g1, g2, g3⟩ := hb2
      have hj := g3 j (by simp)
      have hle := (place_lt (p := P) (n := s) (k := k) (j := j) (y := 0) hk (by omega) (by omega)).1
      have hin : ∀ y, y < P → j - j / P ^ k % P * P ^ k + y * P ^ k < nums.length := fun y hy => by
        rw [hN]
        exact (place_lt hk (by omega) hy).2
      have hdg : j / P ^ k % P < P := Nat.mod_lt _ (by omega)
      have f1 : (j : Int) / ((P ^ k : Nat) : Int) % (P : Int) = ((j / P ^ k % P : Nat) : Int) := by simp
      have f2 : (j : Int) - ((j / P ^ k % P : Nat) : Int) * ((P ^ k : Nat) : Int) = ((j - j / P ^ k % P * P ^ k : Nat) : Int) := by
        rw [Int.natCast_sub hle, Int.natCast_mul]
      have b1 := b_fdiv (i := (j : Int)) (j := ((P ^ k : Nat) : Int)) (m := m) (by omega) (by omega)
      have b2 := b_mod (i := (j : Int) / ((P ^ k : Nat) : Int)) (j := (P : Int)) (m := m) (by omega)
      have b3 := b_mulS (i := ((j / P ^ k % P : Nat) : Int)) (j := ((P ^ k : Nat) : Int)) (m := m) (by omega) (by omega)
      have r := r62_nat (n := P) (by omega)
      rw [f1] at b2
      generalize hg : j / P ^ k % P = dg at *
      generalize hf : j - dg * P ^ k = fs at *
      obtain ⟨y11', q⟩ := l_37a n m P hP x1 x2 x3 nums (P ^ k) ⟨hpk0, by omega⟩ y6 b.1 j dg fs (by omega) hdg (by omega) hin hb b.2
      generalize hst : P ^ k = st at *
      refine ⟨(b.1.set j (gi b.1 j + ((List.range P).map fun y => gi nums (fs + y * st) * wtI P dg y).sum), y11'), ⟨by rw [← g1, List.foldl_cons, hg, hf], by rw [List.length_set]; exact g2, fun z hz => g3 z (by simp [hz])⟩, [some (.val (.int (P : Nat))), some x1, some x2, some x3, some (.val (.lst (nums.map .int))), some (.val (.int (st : Nat))), y6, some (.own (.lst ((b.1.set j (gi b.1 j + ((List.range P).map fun y => gi nums (fs + y * st) * wtI P dg y).sum)).map .int))), some (.val (.int (j : Nat))), some (.val (.int (dg : Nat))), some (.val (.int (fs : Nat))), y11'], ?_, rfl⟩
      have e1 : (j : Int) - (dg : Int) * (st : Int) = (fs : Int) := f2
      simp -implicitDefEqProofs [↓evS_for, ↓evE_lc, ↓evE_lcd, ↓evE_lco, ↓evE_dc, evSs, evS, evE, evEs, evP, evPs, evI, evB, evBor, evBand, evO, evOB, evAnd, bindT, wipeS, bodyF, l_37_1, b1, b2, b3, e1, r, q])
    (List.range nums.length) (List.replicate nums.length 0, y11) ⟨by rw [set_all _ nums.length nums.length (Nat.le_refl _)]; simp, by simp, fun y hy => List.mem_range.mp hy⟩
  rw [List.foldl_nil] at h1
  dsimp only at h1 h2
  rw [h1] at h2
  exact ⟨y', h2⟩
end K04
end

section
set_option Elab.async false
set_option linter.all false
set_option maxRecDepth 100000
set_option maxHeartbeats 4000000
namespace K04
open PySem PySem.Spec PyProof.Rows Dp Rm
theorem mul_ls (a : Int) (N : Nat) (h : N ≤ 9000) (m : Mu) : opB .mul (.lst [.int a]) (.int (N : Nat)) m = .ok (.own (.lst ((List.replicate N a).map .int))) m := by
  show guardR (decide (-(2 ^ 63) ≤ (N : Int)) && (decide ((N : Int) < 2 ^ 63) && decide (([D.int a] : List D).length * (N : Int).toNat ≤ sizeLine))) (R.ok (SV.own (.lst (List.replicate (N : Int).toNat [D.int a]).flatten)) m) = _
  have z : ([D.int a] : List D).length * (N : Int).toNat ≤ sizeLine := by
    rw [Int.toNat_natCast]
    exact szl (by simpa using h)
  rw [decide_eq_true z, decide_eq_true (by omega), decide_eq_true (by omega)]
  have e : (List.replicate (N : Int).toNat [D.int a]).flatten = (List.replicate N a).map .int := by
    rw [Int.toNat_natCast]
    induction N with
    | zero => rfl
    | succ N ih =>
      rw [List.replicate_succ, List.flatten_cons, ih (by omega) (szl (by simp; omega)), List.replicate_succ]
      rfl
  rw [e]
  rfl
theorem f_list (ds : List D) (m : Mu) : opF .list [.lst ds] m = .ok (.own (.lst ds)) m := rfl
theorem t_37 (n : Nat) (m : Mu) (P : Nat) (hP : 2 ≤ P ∧ P ≤ 13) (x1 x2 x3 : SV) (nums : List Int) (k s : Nat) (hk : k < s) (hN : nums.length = P ^ s) (hN2 : P ^ s ≤ 200) (i : Nat) (y6 : Option SV) (hb : ∀ x ∈ nums, -1000 ≤ x ∧ x ≤ 1000) (y11 : Option SV) :
    ∃ (y11' : Option SV) (s1 : Sl), bodyF (callN G (n + 1)) (.nm 6) l_37_2 (.int (i : Nat)) [some (.val (.int (P : Nat))), some x1, some x2, some x3, some (.val (.lst (nums.map .int))), some (.val (.int (P ^ (k + 1) : Nat))), y6, none, none, none, none, y11] m = .nx s1 m ∧
      wipeS s1 [7, 8, 9, 10] = [some (.val (.int (P : Nat))), some x1, some x2, some x3, some (.val (.lst ((trI P (P ^ k) nums).map .int))), some (.val (.int (P ^ k : Nat))), some (.val (.int (i : Nat))), none, none, none, none, y11'] := by
  obtain ⟨y11', q⟩ := l_37b n m P hP x1 x2 x3 nums k s hk hN hN2 (some (.val (.int (i : Nat)))) hb y11
  have hle : P ^ (k + 1) ≤ 200 := Nat.le_trans (Nat.pow_le_pow_right (by omega) (by omega)) hN2
  have hpos : 0 < P ^ k := Nat.pow_pos (by omega)
  have e1 : ((P ^ (k + 1) : Nat) : Int) / (P : Int) = ((P ^ k : Nat) : Int) := by
    rw [← Int.natCast_ediv, Nat.pow_succ, Nat.mul_div_cancel _ (by omega)]
  have b1 := b_fdiv (i := ((P ^ (k + 1) : Nat) : Int)) (j := (P : Int)) (m := m) (by omega) (by omega)
  rw [e1] at b1
  have ml := mul_ls 0 nums.length (by omega) m
  rw [List.map_replicate] at ml q
  have r := r62_nat (n := nums.length) (by omega)
  have lk := lcL_mapf (m := m) (F := lcF (callN G (n + 1)) [some (.val (.int (P : Nat))), some x1, some x2, some x3, some (.val (.lst (nums.map .int))), some (.val (.int (P ^ k : Nat))), some (.val (.int (i : Nat))), some (.val (.lst (((List.range nums.length).map fun j => ((List.range P).map fun y => gi nums (j - (j / P ^ k % P) * P ^ k + y * P ^ k) * wtI P (j / P ^ k % P) y).sum).map .int))), none, none, none, none] (.nm 11) .none (.bin .mod (.e (.bif .int (.cons (.e (.var 11)) .nil))) (.e (.var 0)))) D.int (fun x : Int => D.int (x % (P : Int))) ((List.range nums.length).map fun j => ((List.range P).map fun y => gi nums (j - (j / P ^ k % P) * P ^ k + y * P ^ k) * wtI P (j / P ^ k % P) y).sum) [] (by simp; omega) (fun x _ => by
    have b2 := b_mod (i := x) (j := (P : Int)) (m := m) (by omega)
    simp -implicitDefEqProofs [↓evS_for, ↓evE_lc, ↓evE_lcd, ↓evE_lco, ↓evE_dc, evSs, evS, evE, evEs, evP, evPs, evI, evB, evBor, evBand, evO, evOB, evAnd, bindT, wipeS, lcF, b2])
  have et : (((List.range nums.length).map fun j => ((List.range P).map fun y => gi nums (j - (j / P ^ k % P) * P ^ k + y * P ^ k) * wtI P (j / P ^ k % P) y).sum).map fun x : Int => D.int (x % (P : Int))) = (trI P (P ^ k) nums).map .int := by
    unfold trI
    rw [List.map_map, List.map_map]
    rfl
  rw [et, List.nil_append] at lk
  generalize hS : ((List.range nums.length).map fun j => ((List.range P).map fun y => gi nums (j - (j / P ^ k % P) * P ^ k + y * P ^ k) * wtI P (j / P ^ k % P) y).sum) = S at *
  generalize hT : trI P (P ^ k) nums = T at *
  generalize hst : P ^ k = st at *
  generalize hst2 : P ^ (k + 1) = st2 at *
  refine ⟨y11', [some (.val (.int (P : Nat))), some x1, some x2, some x3, some (.val (.lst (T.map .int))), some (.val (.int (st : Nat))), some (.val (.int (i : Nat))), some (.val (.lst (S.map .int))), none, none, none, y11'], ?_, rfl⟩
  have z1 : (1 : Nat) ≤ sizeLine := szl (by decide)
  simp -implicitDefEqProofs [↓evS_for, ↓evE_lc, ↓evE_lcd, ↓evE_lco, ↓evE_dc, evSs, evS, evE, evEs, evP, evPs, evI, evB, evBor, evBand, evO, evOB, evAnd, bindT, wipeS, bodyF, l_37_2, z1, b1, ml, r, q, lk]
theorem c_37 (n : Nat) (m : Mu) (P : Nat) (hP : 2 ≤ P ∧ P ≤ 13) (s : Nat) (hN2 : P ^ s ≤ 200) (tb : List Int) (ht : tb.length = P ^ s) (hb : ∀ x ∈ tb, 0 ≤ x ∧ x < (P : Int)) : callN G (n + 2) 37 [.int (P : Nat), pl (ptsI P s), .lst (tb.map .int)] m = .ok (.own (.lst ((trmsR P s tb).map tmD))) m := by
  have hs100 : s ≤ 200 := by
    have : s < 2 ^ s := Nat.lt_two_pow_self
    have h2 : 2 ^ s ≤ P ^ s := Nat.pow_le_pow_left hP.1 s
    omega
  have hpos : 0 < P ^ s := Nat.pow_pos (by omega)
  obtain ⟨⟨nums, y6, y11⟩, ⟨h1, h1b, h1c, h1d⟩, h2⟩ := forL_ex (fg := [7, 8, 9, 10]) (F := bodyF (callN G (n + 1)) (.nm 6) l_37_2) (fun i : Nat => D.int (i : Nat)) (fun b : (List Int × Nat) × Option SV × Option SV => [some (.val (.int (P : Nat))), some (.val (pl (ptsI P s))), some (.val (.lst (tb.map .int))), some (.val (.int (s : Nat))), some (.val (.lst (b.1.1.map .int))), some (.val (.int (P ^ b.1.2 : Nat))), b.2.1, none, none, none, none, b.2.2]) (fun _ => m)
    (fun xs b => itI P b.1.2 b.1.1 = itI P s tb ∧ b.1.2 = xs.length ∧ b.1.1.length = P ^ s ∧ (∀ x ∈ b.1.1, 0 ≤ x ∧ x < (P : Int)) ∧ xs.length ≤ s)
    (fun i xs b hb2 => by
      obtain ⟨g1, g2, g3, g4, g5⟩ := hb2
      obtain ⟨⟨nm, kk⟩, y6, y11⟩ := b
      dsimp only at g1 g2 g3 g4
      rw [List.length_cons] at g2 g5
      subst g2
      obtain ⟨y11', s1, q1, q2⟩ := t_37 n m P hP (.val (pl (ptsI P s))) (.val (.lst (tb.map .int))) (.val (.int (s : Nat))) nm xs.length s (by omega) g3 hN2 i y6 (fun x hx => by have := g4 x hx; omega) y11
      exact ⟨((trI P (P ^ xs.length) nm, xs.length), some (.val (.int (i : Nat))), y11'), ⟨g1, rfl, by rw [trI_len]; exact g3, trI_bd P _ (by omega) nm, by omega⟩, s1, q1, q2⟩)
    (List.range s) ((tb, s), none, none) ⟨rfl, by simp, ht, hb, by simp⟩
  obtain ⟨nm, kk⟩ := nums
  dsimp only at h1 h1b h1c h1d h2
  obtain rfl : kk = 0 := h1b
  have e0 : itI P 0 nm = nm := rfl
  rw [e0] at h1
  have hb3 := h1d.1
  subst h1
  have r := r62_nat (n := s) (by omega)
  have hl : (ptsI P s).length = P ^ s := ptsI_len P s
  obtain ⟨x0, hx0⟩ : ∃ x, (ptsI P s)[0]? = some x := ⟨(ptsI P s)[0], List.getElem?_eq_getElem (by omega)⟩
  have hx1 := (ptsI_mem (List.mem_of_getElem? hx0)).1
  have i0 : opIx (pl (ptsI P s)) (.int 0) m = .ok (.val (pt x0)) m := ix_lst (by omega) (by simp [hx0])
  have lk := lcL_filterf (m := m) (F := lcF (callN G (n + 1)) [some (.val (.int (P : Nat))), some (.val (pl (ptsI P s))), some (.val (.lst (tb.map .int))), some (.val (.int (s : Nat))), some (.val (.lst ((itI P s tb).map .int))), some (.val (.int 1)), none, none, none, none, none, y11] (.nm 6) (.some (.cmp .ne (.e (.idx (.e (.var 4)) (.var 6))) (.e (.int 0)))) (.tup (.cons (.idx (.e (.var 1)) (.var 6)) (.cons (.idx (.e (.var 4)) (.var 6)) .nil)))) (fun j => decide (gi (itI P s tb) j ≠ 0)) (fun i : Nat => D.int (i : Nat)) (fun j => tmD ((ptsI P s).getD j [], gi (itI P s tb) j)) (List.range (P ^ s)) [] (by simp; omega) (fun j hj => by
    have hj := List.mem_range.mp hj
    have x1 := ix_ls (l := itI P s tb) (i := j) (m := m) (by rw [itI_len]; omega)
    have x2 : opIx (pl (ptsI P s)) (.int (j : Nat)) m = .ok (.val (pt ((ptsI P s).getD j []))) m := ix_lst (by omega) (by
      have hj2 : j < (ptsI P s).length := by omega
      simp [List.getD, List.getElem?_eq_getElem hj2])
    have z2 : (2 : Nat) ≤ sizeLine := szl (by decide)
    rw [← gi_ga] at x1
    by_cases hz : gi (itI P s tb) j = 0 <;> simp -implicitDefEqProofs [↓evS_for, ↓evE_lc, ↓evE_lcd, ↓evE_lco, ↓evE_dc, evSs, evS, evE, evEs, evP, evPs, evI, evB, evBor, evBand, evO, evOB, evAnd, bindT, wipeS, lcF, x1, x2, hz, z2])
  have r2 := r62_nat (n := P ^ s) (by omega)
  have p0 : ((P ^ 0 : Nat) : Int) = 1 := by simp
  rw [p0] at h2
  have el : (trmsR P s tb).map tmD = ((List.range (P ^ s)).filter fun j => decide (gi (itI P s tb) j ≠ 0)).map fun j => tmD ((ptsI P s).getD j [], gi (itI P s tb) j) := by
    unfold trmsR
    rw [List.map_map]
    rfl
  rw [← el, List.nil_append] at lk
  have hps : ((List.map pt (ptsI P s)).length : Int) = ((P ^ s : Nat) : Int) := by rw [List.length_map, hl]
  generalize hpp : P ^ s = N at *
  rw [o_37]
  simp -implicitDefEqProofs [↓evS_for, ↓evE_lc, ↓evE_lcd, ↓evE_lco, ↓evE_dc, evSs, evS, evE, evEs, evP, evPs, evI, evB, evBor, evBand, evO, evOB, evAnd, bindT, wipeS, b_37, i0, hx1, hl, f_list, r, h2, r2, lk]
end K04
end

section
set_option Elab.async false
set_option linter.all false
/-! The whole numbers and the field: one reckoning. -/
namespace Rm
open Classical La
section
variable {p : Nat} [NeZero p]
theorem iv_nat (a : Nat) : iv p (a : Int) = Fin.ofNat p a := iv_ext (by
  rw [iv_val]
  show _ = ((a % p : Nat) : Int)
  rw [Int.natCast_emod])
theorem iv_fin (a : Fin p) : iv p ((a : Nat) : Int) = a := iv_sur a
theorem iv_mulP (a : Int) : ∀ (k : Nat) (n : Int), iv p (mulP p a k n) = iv p n * pw (iv p a) k
  | 0, n => by
    show iv p n = iv p n * 1
    grind
  | k + 1, n => by
    have e : mulP p a (k + 1) n = mulP p a k n * a % p := by
      unfold mulP
      rw [List.range_succ, List.foldl_append]
      rfl
    rw [e, iv_mod, iv_mul, iv_mulP a k n]
    show iv p n * pw (iv p a) k * iv p a = iv p n * (pw (iv p a) k * iv p a)
    grind
def monG (p : Int) (n : Int) (e x : List Int) : Int := (List.range x.length).foldl (fun n i => mulP p (gi x i) (gi e i).toNat n) n
theorem iv_monG : ∀ (e x : List Int) (n : Int), e.length = x.length → iv p (monG p n e x) = iv p n * mon (e.map Int.toNat) (x.map (iv p))
  | [], [], n, _ => by
    show iv p n = iv p n * 1
    grind
  | [], _ :: _, _, h => by simp at h
  | _ :: _, [], _, h => by simp at h
  | k :: e, a :: x, n, h => by
    have ih := iv_monG e x (mulP p a k.toNat n) (by simpa using h)
    have e1 : monG p n (k :: e) (a :: x) = monG p (mulP p a k.toNat n) e x := by
      unfold monG
      rw [List.length_cons, List.range_succ_eq_map, List.foldl_cons, List.foldl_map]
      rfl
    rw [e1, ih, iv_mulP]
    show _ = iv p n * (pw (iv p a) k.toNat * mon (e.map Int.toNat) (x.map (iv p)))
    grind
theorem iv_monR (e x : List Int) (h : e.length = x.length) : iv p (monR p e x) = mon (e.map Int.toNat) (x.map (iv p)) := by
  have q := iv_monG (p := p) e x 1 h
  show iv p (monG p 1 e x) = _
  rw [q]
  have : iv p 1 * mon (e.map Int.toNat) (x.map (iv p)) = mon (e.map Int.toNat) (x.map (iv p)) := by
    by_cases h1 : 1 < p
    · rw [iv_one h1]
      grind
    · have hp1 : p = 1 := by
        have := NeZero.ne p
        omega
      subst hp1
      exact Subsingleton.elim _ _
  exact this
/-- a term in the field -/
def cv (p : Nat) [NeZero p] (q : List Int × Int) : List Nat × Fin p := (q.1.map Int.toNat, iv p q.2)
theorem iv_valR (x : List Int) : ∀ (ts : List (List Int × Int)), (∀ q ∈ ts, q.1.length = x.length) → iv p (valR p ts x) = Vt (ts.map (cv p)) (x.map (iv p)) := by
  intro ts h
  have key : ∀ (ts : List (List Int × Int)) (t : Int), (∀ q ∈ ts, q.1.length = x.length) → iv p (ts.foldl (fun t q => t + q.2 * monR p q.1 x) t) = iv p t + Vt (ts.map (cv p)) (x.map (iv p)) := by
    intro ts
    induction ts with
    | nil =>
      intro t _
      show iv p t = iv p t + 0
      grind
    | cons q ts ih =>
      intro t h
      rw [List.foldl_cons, ih _ fun r hr => h r (by simp [hr]), iv_add, iv_mul, iv_monR _ _ (h q (by simp))]
      show _ = iv p t + (iv p q.2 * mon (q.1.map Int.toNat) (x.map (iv p)) + Vt (ts.map (cv p)) (x.map (iv p)))
      grind
  unfold valR
  rw [iv_mod, key ts 0 h, iv_zero]
  grind
/-- a point in whole numbers -/
def up (x : List (Fin p)) : List Int := x.map fun a : Fin p => ((a : Nat) : Int)
theorem up_iv (x : List (Fin p)) : (up x).map (iv p) = x := by
  unfold up
  rw [List.map_map]
  conv => rhs; rw [← List.map_id x]
  exact List.map_congr_left fun a _ => iv_fin a
theorem fin_val : ∀ n : Nat, (List.finRange n).map (fun a : Fin n => (a : Nat)) = List.range n
  | 0 => rfl
  | n + 1 => by
    rw [List.finRange_succ, List.map_cons, List.map_map, List.range_succ_eq_map, ← fin_val n, List.map_map]
    rfl
theorem ptsI_first (p : Nat) : ∀ n, ptsI p (n + 1) = (List.range p).flatMap fun a : Nat => (ptsI p n).map fun x => (a : Int) :: x
  | 0 => by
    show ([[]] : List (List Int)).flatMap _ = _
    rw [List.flatMap_cons, List.flatMap_nil, List.append_nil]
    show (List.range p).map (fun a : Nat => ([] : List Int) ++ [(a : Int)]) = (List.range p).flatMap fun a : Nat => [[(a : Int)]]
    induction List.range p with
    | nil => rfl
    | cons a l ih =>
      rw [List.map_cons, ih, List.flatMap_cons]
      rfl
  | n + 1 => by
    rw [ptsI, ptsI_first p n, List.flatMap_assoc]
    congr 1
    funext a
    rw [List.flatMap_map, ← ptsI_first p n, show ptsI p (n + 1) = (ptsI p n).flatMap fun x => (List.range p).map fun b : Nat => x ++ [(b : Int)] from rfl, List.map_flatMap]
    congr 1
    funext x
    rw [List.map_map]
    rfl
theorem ptsI_pts : ∀ n, ptsI p n = (pts p n).map up
  | 0 => rfl
  | n + 1 => by
    rw [ptsI_first, pts, List.map_flatMap, ← fin_val p, List.flatMap_map]
    congr 1
    funext a
    rw [ptsI_pts n, List.map_map, List.map_map]
    rfl
theorem iv_ne {a : Int} (h : 0 ≤ a ∧ a < (p : Int)) : (a ≠ 0) ↔ iv p a ≠ 0 := not_congr (iv_eq0 h).symm
theorem valR_bd (ts : List (List Int × Int)) (x : List Int) : 0 ≤ valR p ts x ∧ valR p ts x < (p : Int) :=
  ⟨Int.emod_nonneg _ (Int.ne_of_gt q_pos), Int.emod_lt_of_pos _ q_pos⟩
/-- terms in n unknowns -/
def Tn (p n : Nat) (ts : List (List Int × Int)) : Prop := ∀ q ∈ ts, q.1.length = n ∧ (∀ k ∈ q.1, 0 ≤ k ∧ k < (p : Int)) ∧ 0 < q.2 ∧ q.2 < (p : Int)
theorem Tn.box {n : Nat} {ts : List (List Int × Int)} (h : Tn p n ts) : ∀ t ∈ ts.map (cv p), Box p n t.1 ∧ t.2 ≠ 0 := by
  intro t ht
  obtain ⟨q, hq, rfl⟩ := List.mem_map.mp ht
  obtain ⟨h1, h2, h3, h4⟩ := h q hq
  refine ⟨⟨by simpa [cv] using h1, fun k hk => ?_⟩, (iv_ne ⟨by omega, h4⟩).mp (by omega)⟩
  obtain ⟨i, hi, rfl⟩ := List.mem_map.mp hk
  have := h2 i hi
  omega
theorem placesR_cnt {n : Nat} {ts : List (List Int × Int)} (h : Tn p n ts) : placesR p ts (ptsI p n) = cnt n (coef (ts.map (cv p))) := by
  unfold placesR
  rw [ptsI_pts, List.filter_map, List.length_map, cnt_congr (f := fun x => Vt (ts.map (cv p)) x) fun x hx => V_coef fun t ht => by rw [hx]; exact (h.box t ht).1]
  congr 1
  apply List.filter_congr
  intro x hx
  have hl := pts_len hx
  show decide (valR p ts (up x) ≠ 0) = decide _
  rw [decide_eq_decide, iv_ne (valR_bd ts (up x)), iv_valR (up x) ts fun q hq => by rw [(h q hq).1]; unfold up; rw [List.length_map, hl], up_iv]
theorem sum_nat : ∀ l : List Int, (∀ k ∈ l, 0 ≤ k) → ((l.map Int.toNat).sum : Int) = l.sum
  | [], _ => rfl
  | k :: l, h => by
    have ih := sum_nat l fun j hj => h j (by simp [hj])
    have hk := h k (by simp)
    rw [List.map_cons, List.sum_cons, List.sum_cons, Int.natCast_add, ih]
    omega
theorem keys_nd {n : Nat} {ts : List (List Int × Int)} (h : Tn p n ts) (hn : (ts.map (·.1)).Nodup) : ((ts.map (cv p)).map (·.1)).Nodup := by
  have e : (ts.map (cv p)).map (·.1) = (ts.map (·.1)).map (List.map Int.toNat) := by rw [List.map_map, List.map_map]; rfl
  rw [e]
  unfold List.Nodup at *
  rw [List.pairwise_map]
  refine List.Pairwise.imp_of_mem ?_ hn
  intro a b ha hb hab z
  obtain ⟨qa, ha1, rfl⟩ := List.mem_map.mp ha
  obtain ⟨qb, hb1, rfl⟩ := List.mem_map.mp hb
  apply hab
  have back : ∀ l : List Int, (∀ k ∈ l, 0 ≤ k) → (l.map Int.toNat).map (fun k : Nat => (k : Int)) = l := by
    intro l hl
    rw [List.map_map]
    conv => rhs; rw [← List.map_id l]
    exact List.map_congr_left fun k hk => Int.toNat_of_nonneg (hl k hk)
  rw [← back _ fun k hk => ((h qa ha1).2.1 k hk).1, z, back _ fun k hk => ((h qb hb1).2.1 k hk).1]
/-- the bound, in the law's words -/
theorem bound1 (hF : Fld p) (hp : 2 ≤ p) {n d : Nat} {ts : List (List Int × Int)} (h : Tn p n ts) (hn : (ts.map (·.1)).Nodup) (hz : ts ≠ []) (hd : ∀ q ∈ ts, q.1.sum ≤ (d : Int)) : w p n d ≤ placesR p ts (ptsI p n) := by
  rw [placesR_cnt h]
  refine few_terms hF hp (fun t ht => ⟨(h.box t ht).1, (h.box t ht).2, ?_⟩) (keys_nd h hn) (fun e => hz (List.map_eq_nil_iff.mp e))
  obtain ⟨q, hq, rfl⟩ := List.mem_map.mp ht
  have := sum_nat q.1 fun k hk => ((h q hq).2.1 k hk).1
  have := hd q hq
  show (q.1.map Int.toNat).sum ≤ d
  omega
/-! ### the second way -/
theorem iv_sum {α : Type} (f : α → Int) : ∀ l : List α, iv p (l.map f).sum = (l.map fun k => iv p (f k)).sum
  | [] => iv_zero
  | k :: l => by
    simp only [List.map_cons, List.sum_cons]
    rw [iv_add, iv_sum f l]
theorem iv_neg (x : Int) : iv p (-x) = - iv p x := by
  have : iv p (-x) + iv p x = 0 := by rw [← iv_add, show -x + x = 0 by omega, iv_zero]
  grind
theorem iv_wt (h1 : 1 < p) {k y : Nat} (hk : k < p) : iv p (wtI p k y) = wt p k y := by
  unfold wtI wt
  by_cases h0 : k = 0
  · rw [if_pos h0, if_pos h0]
    by_cases hy : y = 0
    · rw [if_pos hy, if_pos hy, iv_one h1]
    · rw [if_neg hy, if_neg hy, iv_zero]
  · rw [if_neg h0, if_neg h0, iv_neg, iv_mulP, iv_one h1, iv_nat, show ((p : Int) - 1 - (k : Int)).toNat = p - 1 - k by omega]
    grind
theorem gi_map {f : Nat → Int} {n j : Nat} (h : j < n) : gi ((List.range n).map f) j = f j := by
  unfold gi
  simp [List.getD, h]
theorem It_it (h1 : 1 < p) (N : Nat) : ∀ (n : Nat) (l : List Int) (j : Nat), n ≤ N → l.length = p ^ N → j < p ^ N → iv p (gi (itI p n l) j) = It n (fun j => iv p (gi l j)) j
  | 0, l, j, _, _, _ => rfl
  | n + 1, l, j, hn, hl, hj => by
    show iv p (gi (itI p n (trI p (p ^ n) l)) j) = It n (Tr (p ^ n) fun j => iv p (gi l j)) j
    rw [It_it h1 N n _ j (by omega) (by rw [trI_len, hl]) hj]
    have hP : 0 < p ^ n := Nat.pow_pos (by omega)
    have ej : j = j / p ^ n * p ^ n + j % p ^ n := by rw [Nat.mul_comm]; exact (Nat.div_add_mod _ _).symm
    have hq : j / p ^ n < p ^ (N - n) := by
      rw [Nat.div_lt_iff_lt_mul hP, ← Nat.pow_add, show N - n + n = N by omega]
      exact hj
    conv => lhs; rw [ej]
    conv => rhs; rw [ej]
    refine It_block n _ _ _ _ (fun r hr => ?_) _ (Nat.mod_lt _ hP)
    have hlt : j / p ^ n * p ^ n + r < p ^ N := by
      have h2 : (j / p ^ n + 1) * p ^ n ≤ p ^ (N - n) * p ^ n := Nat.mul_le_mul_right _ hq
      rw [← Nat.pow_add, show N - n + n = N by omega, Nat.add_mul] at h2
      omega
    generalize j / p ^ n * p ^ n + r = i at *
    show iv p (gi (trI p (p ^ n) l) i) = _
    unfold trI Tr
    rw [gi_map (by rw [hl]; exact hlt), iv_mod, iv_sum]
    congr 1
    apply List.map_congr_left
    intro y _
    rw [iv_mul, iv_wt h1 (Nat.mod_lt _ (by omega))]
theorem range_mul (N : Nat) : ∀ k : Nat, ((List.range k).flatMap fun a => (List.range N).map fun j => a * N + j) = List.range (k * N)
  | 0 => by simp
  | k + 1 => by
    rw [List.range_succ, List.flatMap_append, range_mul N k, List.flatMap_cons, List.flatMap_nil, List.append_nil, Nat.add_mul, Nat.one_mul, List.range_add]
theorem pts_idx : ∀ n, (pts p n).map (fun x => idx p (x.map (·.val))) = List.range (p ^ n)
  | 0 => rfl
  | n + 1 => by
    rw [pts, List.map_flatMap, Nat.pow_succ, Nat.mul_comm, ← range_mul, ← fin_val p, List.flatMap_map]
    have key : ∀ l : List (Fin p), (l.flatMap fun a => ((pts p n).map (a :: ·)).map fun x => idx p (x.map (·.val))) = l.flatMap fun a : Fin p => (List.range (p ^ n)).map fun j => (a : Nat) * p ^ n + j := by
      intro l
      congr 1
      funext a
      rw [← pts_idx n, List.map_map, List.map_map]
      apply List.map_congr_left
      intro x hx
      show (a : Nat) * p ^ (x.map (·.val)).length + idx p (x.map (·.val)) = _
      rw [List.length_map, pts_len hx]
      rfl
    exact key _
theorem pts_at {n j : Nat} (hj : j < p ^ n) : ∃ x : List (Fin p), (pts p n)[j]? = some x ∧ idx p (x.map (·.val)) = j ∧ x.length = n := by
  have hl : (pts p n).length = p ^ n := by
    have := congrArg List.length (pts_idx (p := p) n)
    simpa using this
  have hjl : j < (pts p n).length := by omega
  refine ⟨(pts p n)[j], List.getElem?_eq_getElem hjl, ?_, pts_len (List.getElem_mem _)⟩
  have e := congrArg (fun l : List Nat => l[j]?) (pts_idx (p := p) n)
  simp only [List.getElem?_map, List.getElem?_range hj, List.getElem?_eq_getElem hjl] at e
  exact Option.some.inj e
theorem ptsI_at {n j : Nat} (hj : j < p ^ n) : ∃ x : List (Fin p), (ptsI p n).getD j [] = up x ∧ idx p (x.map (·.val)) = j ∧ x.length = n := by
  obtain ⟨x, h1, h2, h3⟩ := pts_at (p := p) hj
  refine ⟨x, ?_, h2, h3⟩
  rw [ptsI_pts, List.getD, List.getElem?_map, h1]
  rfl
theorem idx_inj {n : Nat} : ∀ {e e' : List Nat}, Box p n e → Box p n e' → idx p e = idx p e' → e = e' := by
  induction n with
  | zero =>
    intro e e' h h' _
    rw [List.eq_nil_of_length_eq_zero h.1, List.eq_nil_of_length_eq_zero h'.1]
  | succ n ih =>
    intro e e' h h' hi
    cases e with
    | nil => simp [Box] at h
    | cons k e =>
      cases e' with
      | nil => simp [Box] at h'
      | cons k' e' =>
        have b1 : Box p n e := ⟨by simpa using h.1, fun j hj => h.2 j (by simp [hj])⟩
        have b2 : Box p n e' := ⟨by simpa using h'.1, fun j hj => h'.2 j (by simp [hj])⟩
        have l1 := idx_lt b1
        have l2 := idx_lt b2
        have hi : k * p ^ e.length + idx p e = k' * p ^ e'.length + idx p e' := hi
        rw [b1.1, b2.1] at hi
        have hP : 0 < p ^ n := Nat.pow_pos (Nat.pos_of_ne_zero (NeZero.ne p))
        have ek : k = k' := by
          have d1 : (k * p ^ n + idx p e) / p ^ n = k := by rw [Nat.mul_comm, Nat.mul_add_div hP, Nat.div_eq_of_lt l1, Nat.add_zero]
          have d2 : (k' * p ^ n + idx p e') / p ^ n = k' := by rw [Nat.mul_comm, Nat.mul_add_div hP, Nat.div_eq_of_lt l2, Nat.add_zero]
          rw [← d1, ← d2, hi]
        subst ek
        rw [ih b1 b2 (by omega)]
theorem box_val {x : List (Fin p)} : Box p x.length (x.map (·.val)) := ⟨by simp, fun k hk => by
  obtain ⟨a, _, rfl⟩ := List.mem_map.mp hk
  exact a.isLt⟩
theorem up_nat (x : List (Fin p)) : (up x).map Int.toNat = x.map (·.val) := by
  unfold up
  rw [List.map_map]
  exact List.map_congr_left fun a _ => Int.toNat_natCast _
section
variable (h1 : 1 < p) {n : Nat} {tb : List Int} (hl : tb.length = p ^ n) (hb : ∀ x ∈ tb, 0 ≤ x ∧ x < (p : Int))
include h1 hl hb
theorem trms_ok : Tn p n (trmsR p n tb) ∧ ((trmsR p n tb).map (·.1)).Nodup := by
  constructor
  · intro q hq
    obtain ⟨j, hj, rfl⟩ := List.mem_map.mp hq
    obtain ⟨hj1, hj2⟩ := List.mem_filter.mp hj
    have hj1 := List.mem_range.mp hj1
    obtain ⟨x, e1, _, e3⟩ := ptsI_at (p := p) hj1
    have hbd := itI_bd p (by omega) n tb hb (gi (itI p n tb) j) (by
      have : j < (itI p n tb).length := by rw [itI_len, hl]; exact hj1
      unfold gi
      rw [List.getD, List.getElem?_eq_getElem this]
      exact List.getElem_mem _)
    have hne := of_decide_eq_true hj2
    refine ⟨by show ((ptsI p n).getD j []).length = n; rw [e1]; unfold up; rw [List.length_map, e3], fun k hk => ?_, by show 0 < gi _ _; omega, hbd.2⟩
    have hk : k ∈ (ptsI p n).getD j [] := hk
    rw [e1] at hk
    obtain ⟨a, _, rfl⟩ := List.mem_map.mp hk
    have := a.isLt
    omega
  · unfold trmsR List.Nodup
    rw [List.map_map, List.pairwise_map]
    refine List.Pairwise.imp_of_mem ?_ (List.Pairwise.filter _ List.nodup_range)
    intro i j hi hj hij e
    have hi := List.mem_range.mp (List.mem_filter.mp hi).1
    have hj := List.mem_range.mp (List.mem_filter.mp hj).1
    obtain ⟨x, e1, e2, e3⟩ := ptsI_at (p := p) hi
    obtain ⟨y, f1, f2, f3⟩ := ptsI_at (p := p) hj
    have e : (ptsI p n).getD i [] = (ptsI p n).getD j [] := e
    rw [e1, f1] at e
    apply hij
    rw [← e2, ← f2, ← up_nat, ← up_nat, e]
theorem coef_trms {e : List Nat} (he : Box p n e) : coef ((trmsR p n tb).map (cv p)) e = iv p (gi (itI p n tb) (idx p e)) := by
  obtain ⟨t1, t2⟩ := trms_ok h1 hl hb
  have hj := idx_lt he
  obtain ⟨x, e1, e2, e3⟩ := ptsI_at (p := p) hj
  have ex : x.map (·.val) = e := idx_inj (n := n) (by rw [← e3]; exact box_val) he e2
  by_cases hz : gi (itI p n tb) (idx p e) = 0
  · rw [hz, iv_zero]
    refine coef_not fun t ht z => ?_
    obtain ⟨q, hq, rfl⟩ := List.mem_map.mp ht
    obtain ⟨j, hj2, rfl⟩ := List.mem_map.mp hq
    obtain ⟨g1, g2⟩ := List.mem_filter.mp hj2
    obtain ⟨y, f1, f2, f3⟩ := ptsI_at (p := p) (List.mem_range.mp g1)
    have z : ((ptsI p n).getD j []).map Int.toNat = e := z
    rw [f1, up_nat] at z
    rw [z] at f2
    rw [f2] at hz
    exact of_decide_eq_true g2 hz
  · have hm : ((ptsI p n).getD (idx p e) [], gi (itI p n tb) (idx p e)) ∈ trmsR p n tb := List.mem_map.mpr ⟨idx p e, List.mem_filter.mpr ⟨List.mem_range.mpr hj, decide_eq_true hz⟩, rfl⟩
    have c := coef_at (keys_nd t1 t2) (List.mem_map_of_mem (f := cv p) hm)
    have e4 : (cv p ((ptsI p n).getD (idx p e) [], gi (itI p n tb) (idx p e))).1 = e := by
      show ((ptsI p n).getD (idx p e) []).map Int.toNat = e
      rw [e1, up_nat, ex]
    rw [e4] at c
    exact c
theorem few_table (hI : Inv1 p) (hF : Fld p) {d : Nat} (hz : trmsR p n tb ≠ []) (hd : ∀ q ∈ trmsR p n tb, q.1.sum ≤ (d : Int)) : w p n d ≤ (tb.filter fun a => decide (a ≠ 0)).length := by
  obtain ⟨t1, t2⟩ := trms_ok h1 hl hb
  have key := few_terms hF (by omega) (d := d) (fun t ht => ⟨(t1.box t ht).1, (t1.box t ht).2, by
    obtain ⟨q, hq, rfl⟩ := List.mem_map.mp ht
    have := sum_nat q.1 fun k hk => ((t1 q hq).2.1 k hk).1
    have := hd q hq
    show (q.1.map Int.toNat).sum ≤ d
    omega⟩) (keys_nd t1 t2) (fun e => hz (List.map_eq_nil_iff.mp e))
  rw [cnt_congr (f := fun x => iv p (gi tb (idx p (x.map (·.val))))) fun x hx => by
    subst hx
    rw [V_congr (d := fun e => It x.length (fun j => iv p (gi tb j)) (idx p e)) fun e he => by
      rw [coef_trms h1 hl hb he, It_it h1 x.length x.length tb _ (Nat.le_refl _) hl (idx_lt he)], inv hI]] at key
  have et : tb = (List.range (p ^ n)).map (gi tb) := by
    apply List.ext_getElem?
    intro i
    rw [List.getElem?_map]
    by_cases hi : i < p ^ n
    · rw [List.getElem?_range hi]
      unfold gi
      simp [List.getD, List.getElem?_eq_getElem (show i < tb.length by omega)]
    · rw [List.getElem?_eq_none (by omega), List.getElem?_eq_none (by simp; omega)]
      rfl
  have e2 : (tb.filter fun a => decide (a ≠ 0)).length = ((pts p n).filter fun x => decide (iv p (gi tb (idx p (x.map (·.val)))) ≠ 0)).length := by
    conv => lhs; rw [et]
    rw [← pts_idx (p := p) n, List.map_map, List.filter_map, List.length_map]
    congr 1
    apply List.filter_congr
    intro x hx
    show decide (gi tb (idx p (x.map (·.val))) ≠ 0) = _
    have hxl := pts_len hx
    have hj : idx p (x.map (·.val)) < tb.length := by
      rw [hl, ← hxl]
      exact idx_lt box_val
    rw [decide_eq_decide, iv_ne (hb _ (by
      unfold gi
      rw [List.getD, List.getElem?_eq_getElem hj]
      exact List.getElem_mem _))]
  rw [e2]
  exact key
end
end
theorem fld2 : Fld 2 := by unfold Fld; decide +kernel
theorem fld3 : Fld 3 := by unfold Fld; decide +kernel
theorem fld5 : Fld 5 := by unfold Fld; decide +kernel
theorem fld7 : Fld 7 := by unfold Fld; decide +kernel
theorem fld11 : Fld 11 := by unfold Fld; decide +kernel
theorem fld13 : Fld 13 := by unfold Fld; decide +kernel
end Rm
end

section
set_option Elab.async false
set_option linter.all false
set_option maxRecDepth 100000
set_option maxHeartbeats 4000000
namespace K04
open PySem PySem.Spec PyProof.Rows Dp Rm
theorem isi_tup (ds : List D) : isTyD G.subs (.tup ds) (.bt "tuple") = some true := rfl
theorem c_31 (n : Nat) (m : Mu) (e : List Int) (w : Nat) (most : Int) (hl : e.length = w) (hw : w ≤ 1000) (h : ∀ k ∈ e, 0 ≤ k ∧ k ≤ most) : callN G (n + 2) 31 [pt e, .int (w : Nat), .int most] m = .ok (.val (.bl true)) m := by
  have lk := lcL_filterf (m := m) (F := lcF (callN G (n + 1)) [some (.val (pt e)), some (.val (.int (w : Nat))), some (.val (.int most)), none] (.nm 3) (.some (.or (.cons (.not (.e (.e (.call 10 (.cons (.var 3) .nil))))) (.cons (.cmp .lt (.e (.var 3)) (.e (.int 0))) (.cons (.cmp .gt (.e (.var 3)) (.e (.var 2))) .nil))))) (.var 3)) (fun _ : Int => false) D.int D.int e [] (by simp; omega) (fun k hk => by
    obtain ⟨h1, h2⟩ := h k hk
    have c := c_10 n k m
    have n1 : ¬ (k < 0) := by omega
    have n2 : ¬ (most < k) := by omega
    simp -implicitDefEqProofs [↓evS_for, ↓evE_lc, ↓evE_lcd, ↓evE_lco, ↓evE_dc, evSs, evS, evE, evEs, evP, evPs, evI, evB, evBor, evBand, evO, evOB, evAnd, bindT, wipeS, lcF, c, n1, n2])
  have ef : e.filter (fun _ => false) = [] := List.filter_eq_nil_iff.mpr fun _ _ => by simp
  rw [ef, List.nil_append, List.map_nil] at lk
  rw [o_31]
  simp -implicitDefEqProofs [↓evS_for, ↓evE_lc, ↓evE_lcd, ↓evE_lco, ↓evE_dc, evSs, evS, evE, evEs, evP, evPs, evI, evB, evBor, evBand, evO, evOB, evAnd, bindT, wipeS, b_31, isi_tup, hl, lk]
theorem c_30 (n : Nat) (m : Mu) (P : Nat) (hP : 2 ≤ P ∧ P ≤ 13) (w : Nat) (hw : w ≤ 1000) (ts : List (List Int × Int)) (ht : Tn P w ts) (hn : (ts.map (·.1)).Nodup) (hl : ts.length ≤ 9000) : callN G (n + 3) 30 [.int (P : Nat), .int (w : Nat), .tup (ts.map tmD)] m = .ok (.val (.bl true)) m := by
  obtain ⟨seen, _, key⟩ := forL_ex (fg := [4]) (F := bodyF (callN G (n + 2)) (.nm 4) l_30_0) tmD (fun seen : List (List Int) => [some (.val (.int (P : Nat))), some (.val (.int (w : Nat))), some (.val (.tup (ts.map tmD))), some (.own (.lst (seen.map pt))), none]) (fun _ => m)
    (fun xs seen => (seen ++ xs.map (·.1)).Nodup ∧ (∀ q ∈ xs, q.1.length = w ∧ (∀ k ∈ q.1, 0 ≤ k ∧ k < (P : Int)) ∧ 0 < q.2 ∧ q.2 < (P : Int)) ∧ seen.length + xs.length ≤ 9000)
    (fun q xs seen hb => by
      obtain ⟨g1, g2, g3⟩ := hb
      rw [List.length_cons] at g3
      obtain ⟨h1, h2, h3, h4⟩ := g2 q (by simp)
      have c31 := c_31 n m q.1 w ((P : Int) - 1) h1 hw fun k hk => by have := h2 k hk; omega
      have c10 := c_10 (n + 1) q.2 m
      have n1 : ¬ (q.2 < 1) := by omega
      have n2 : ¬ ((P : Int) ≤ q.2) := by omega
      have i0 : opIx (tmD q) (.int 0) m = .ok (.val (pt q.1)) m := rfl
      have i1 : opIx (tmD q) (.int 1) m = .ok (.val (.int q.2)) m := rfl
      have hns : ¬ (q.1 ∈ seen) := fun z => by
        rw [List.map_cons] at g1
        exact (List.nodup_append.mp g1).2.2 _ z _ (List.mem_cons_self ..) rfl
      have z0 : seen.length < sizeLine := szl (n := seen.length + 1) (by omega)
      refine ⟨seen ++ [q.1], ⟨by rw [List.append_assoc]; exact g1, fun r hr => g2 r (by simp [hr]), by rw [List.length_append, List.length_singleton]; omega⟩, [some (.val (.int (P : Nat))), some (.val (.int (w : Nat))), some (.val (.tup (ts.map tmD))), some (.own (.lst ((seen ++ [q.1]).map pt))), some (.val (tmD q))], ?_, rfl⟩
      simp -implicitDefEqProofs [↓evS_for, ↓evE_lc, ↓evE_lcd, ↓evE_lco, ↓evE_dc, evSs, evS, evE, evEs, evP, evPs, evI, evB, evBor, evBand, evO, evOB, evAnd, bindT, wipeS, bodyF, l_30_0, isi_tup, i0, i1, c31, c10, n1, n2, hns, isL, chgO, opM, z0])
    ts [] ⟨by simpa using hn, ht, by simpa using hl⟩
  have e0 : (([] : List (List Int)).map pt) = [] := rfl
  rw [e0] at key
  rw [o_30]
  simp -implicitDefEqProofs [↓evS_for, ↓evE_lc, ↓evE_lcd, ↓evE_lco, ↓evE_dc, evSs, evS, evE, evEs, evP, evPs, evI, evB, evBor, evBand, evO, evOB, evAnd, bindT, wipeS, b_30, isi_tup, key]
end K04
end

section
set_option Elab.async false
set_option linter.all false
set_option maxRecDepth 100000
set_option maxHeartbeats 4000000
namespace K04
open PySem PySem.Spec PyProof.Rows Dp Rm
/-! ### the bound for the six primes -/
theorem powI_nat (P : Nat) : ∀ k, powI (P : Int) k = ((P ^ k : Nat) : Int)
  | 0 => rfl
  | k + 1 => by
    show powI (P : Int) k * (P : Int) = _
    rw [powI_nat P k, Nat.pow_succ, Int.natCast_mul]
theorem fewI_w (P : Nat) [NeZero P] (hP : 2 ≤ P) : ∀ (s d : Nat), d ≤ s * (P - 1) → fewI P s d = (w P s d : Int)
  | 0, d, h => by
    have : d = 0 := by simpa using h
    subst this
    unfold fewI
    rw [if_pos (by simp)]
    rfl
  | s + 1, d, h => by
    have hq : ((P : Int) - 1) = ((P - 1 : Nat) : Int) := by omega
    by_cases hd : P - 1 ≤ d
    · rw [w_high s d hd, ← fewI_w P hP s (d - (P - 1)) (by rw [Nat.add_mul] at h; omega)]
      have e1 : (d : Int) = ((d - (P - 1) : Nat) : Int) + 1 * ((P : Int) - 1) := by omega
      unfold fewI
      rw [e1, Int.add_mul_ediv_right _ _ (by omega), Int.add_mul_emod_self_right]
      generalize ((d - (P - 1) : Nat) : Int) / ((P : Int) - 1) = x
      generalize ((d - (P - 1) : Nat) : Int) % ((P : Int) - 1) = y
      by_cases hx : x = (s : Int)
      · rw [if_pos (by omega), if_pos hx]
      · rw [if_neg (by omega), if_neg hx]
        congr 3
        omega
    · rw [w_low s d (by omega)]
      unfold fewI
      rw [Int.ediv_eq_zero_of_lt (by omega) (by omega), Int.emod_eq_of_lt (by omega) (by omega), if_neg (by omega), show (((s + 1 : Nat) : Int) - 0 - 1).toNat = s by omega, powI_nat, Int.natCast_mul]
      congr 1
      omega
theorem pr_nat {P : Nat} (h : Pr P) : P = 2 ∨ P = 3 ∨ P = 5 ∨ P = 7 ∨ P = 11 ∨ P = 13 := by
  unfold Pr at h
  omega
theorem boundA {P : Nat} (hP : Pr P) {s d : Nat} {ts : List (List Int × Int)} (h : Tn P s ts) (hn : (ts.map (·.1)).Nodup) (hz : ts ≠ []) (hd : ∀ q ∈ ts, q.1.sum ≤ (d : Int)) : w P s d ≤ placesR P ts (ptsI P s) := by
  rcases pr_nat hP with rfl | rfl | rfl | rfl | rfl | rfl
  · exact bound1 fld2 (by decide) h hn hz hd
  · exact bound1 fld3 (by decide) h hn hz hd
  · exact bound1 fld5 (by decide) h hn hz hd
  · exact bound1 fld7 (by decide) h hn hz hd
  · exact bound1 fld11 (by decide) h hn hz hd
  · exact bound1 fld13 (by decide) h hn hz hd
theorem boundB {P : Nat} (hP : Pr P) {s d : Nat} {tb : List Int} (hl : tb.length = P ^ s) (hb : ∀ x ∈ tb, 0 ≤ x ∧ x < (P : Int)) (hz : trmsR P s tb ≠ []) (hd : ∀ q ∈ trmsR P s tb, q.1.sum ≤ (d : Int)) : Tn P s (trmsR P s tb) ∧ w P s d ≤ (tb.filter fun a => decide (a ≠ 0)).length := by
  rcases pr_nat hP with rfl | rfl | rfl | rfl | rfl | rfl
  · exact ⟨(trms_ok (by decide) hl hb).1, few_table (by decide) hl hb inv2 fld2 hz hd⟩
  · exact ⟨(trms_ok (by decide) hl hb).1, few_table (by decide) hl hb inv3 fld3 hz hd⟩
  · exact ⟨(trms_ok (by decide) hl hb).1, few_table (by decide) hl hb inv5 fld5 hz hd⟩
  · exact ⟨(trms_ok (by decide) hl hb).1, few_table (by decide) hl hb inv7 fld7 hz hd⟩
  · exact ⟨(trms_ok (by decide) hl hb).1, few_table (by decide) hl hb inv11 fld11 hz hd⟩
  · exact ⟨(trms_ok (by decide) hl hb).1, few_table (by decide) hl hb inv13 fld13 hz hd⟩
theorem trms_tn {P : Nat} (hP : Pr P) {s : Nat} {tb : List Int} (hl : tb.length = P ^ s) (hb : ∀ x ∈ tb, 0 ≤ x ∧ x < (P : Int)) : Tn P s (trmsR P s tb) := by
  rcases pr_nat hP with rfl | rfl | rfl | rfl | rfl | rfl <;> exact (trms_ok (by decide) hl hb).1
theorem sum_bd {q : Int} : ∀ {l : List Int}, (∀ k ∈ l, 0 ≤ k ∧ k ≤ q) → 0 ≤ l.sum ∧ l.sum ≤ (l.length : Int) * q
  | [], _ => by simp
  | k :: l, h => by
    obtain ⟨i1, i2⟩ := sum_bd (l := l) fun j hj => h j (by simp [hj])
    have := h k (by simp)
    rw [List.sum_cons, List.length_cons, Int.natCast_succ, Int.add_mul]
    omega
/-- the greatest of the sums -/
theorem max_ok {P s : Nat} {ts : List (List Int × Int)} (h : Tn P s ts) (hz : ts ≠ []) (m : Mu) : ∃ d : Nat, d ≤ s * (P - 1) ∧ (∀ q ∈ ts, q.1.sum ≤ (d : Int)) ∧ opF .max [.lst (ts.map fun q => .int q.1.sum)] m = .ok (.val (.int (d : Nat))) m := by
  cases ts with
  | nil => exact absurd rfl hz
  | cons q ts =>
    obtain ⟨h1, h2⟩ := maxI_ok q.1.sum (ts.map fun q => q.1.sum)
    have hall : ∀ r ∈ q :: ts, 0 ≤ r.1.sum ∧ r.1.sum ≤ ((s * (P - 1) : Nat) : Int) := fun r hr => by
      obtain ⟨g1, g2, g3, g4⟩ := h r hr
      obtain ⟨b1, b2⟩ := sum_bd (q := (P : Int) - 1) (l := r.1) fun k hk => by have := g2 k hk; omega
      refine ⟨b1, ?_⟩
      rw [g1] at b2
      rw [Int.natCast_mul, show ((P - 1 : Nat) : Int) = (P : Int) - 1 by omega]
      exact b2
    have hm : ∃ r ∈ q :: ts, r.1.sum = maxI q.1.sum (ts.map fun q => q.1.sum) := by
      rcases List.mem_cons.mp h1 with e | e
      · exact ⟨q, by simp, e.symm⟩
      · obtain ⟨r, hr, e⟩ := List.mem_map.mp e
        exact ⟨r, by simp [hr], e⟩
    obtain ⟨r, hr, er⟩ := hm
    obtain ⟨c1, c2⟩ := hall r hr
    refine ⟨(maxI q.1.sum (ts.map fun q => q.1.sum)).toNat, by omega, fun u hu => ?_, ?_⟩
    · have := h2 u.1.sum (by
        rcases List.mem_cons.mp hu with rfl | hu
        · simp
        · exact List.mem_cons_of_mem _ (List.mem_map_of_mem (f := fun q : List Int × Int => q.1.sum) hu))
      omega
    · rw [Int.toNat_of_nonneg (by omega)]
      have e : ((q :: ts).map fun q => D.int q.1.sum) = (q.1.sum :: ts.map fun q => q.1.sum).map .int := by
        rw [List.map_cons, List.map_cons, List.map_map]
        rfl
      rw [e]
      show (match D.nums ((q.1.sum :: ts.map fun q => q.1.sum).map .int) with | some (a :: l) => R.ok (SV.val (.int (maxI a l))) m | _ => .bad) = _
      rw [nums_ints]
theorem f_sum (l : List Int) (m : Mu) : opF .sum [pt l] m = .ok (.val (.int l.sum)) m := by
  show (match D.nums (l.map .int) with | some l => R.ok (SV.val (.int l.sum)) m | none => .bad) = _
  rw [nums_ints]
theorem f_sumL (l : List Int) (m : Mu) : opF .sum [.lst (l.map .int)] m = .ok (.val (.int l.sum)) m := by
  show (match D.nums (l.map .int) with | some l => R.ok (SV.val (.int l.sum)) m | none => .bad) = _
  rw [nums_ints]
/-- a comprehension that draws -/
theorem lcL_mem {α β : Type} {F : D → Mu → R (Option D)} (f : α → D) (mu : β → Mu) (Q : Int → Prop) (h : ∀ x b, ∃ v b', Q v ∧ F (f x) (mu b) = .ok (some (.int v)) (mu b')) : ∀ (xs : List α) (acc : List D) (b : β), acc.length + xs.length ≤ 9000 → ∃ (es : List Int) (b' : β), es.length = xs.length ∧ (∀ e ∈ es, Q e) ∧ lcL F (xs.map f) acc (mu b) = .ok (acc ++ es.map .int) (mu b')
  | [], acc, b, _ => ⟨[], b, rfl, fun _ he => by simp at he, by simp [lcL]⟩
  | x :: xs, acc, b, hl => by
    obtain ⟨v, b1, h1, h2⟩ := h x b
    rw [List.length_cons] at hl
    obtain ⟨es, b2, i1, i2, i3⟩ := lcL_mem f mu Q h xs (acc ++ [.int v]) b1 (by rw [List.length_append, List.length_singleton]; omega)
    refine ⟨v :: es, b2, by simp [i1], fun e he => ?_, ?_⟩
    · rcases List.mem_cons.mp he with rfl | he
      · exact h1
      · exact i2 e he
    · rw [List.map_cons]
      unfold lcL
      rw [h2]
      simp only [R.bindN_ok]
      have hz : acc.length < sizeLine := szl (n := acc.length + 1) (by omega)
      rw [decide_eq_true hz, guard_true, i3]
      simp
abbrev dw (ds : List Int) : Mu := [.lst (ds.map .int)]
theorem pt_ok {P s : Nat} (hP : P ≤ 13) {x : List Int} (h : x ∈ ptsI P s) : PtOk s x := ⟨(ptsI_mem h).1, fun a ha => by have := (ptsI_mem h).2 a ha; omega⟩
theorem tm_ok {P s : Nat} (hP : P ≤ 13) {ts : List (List Int × Int)} (h : Tn P s ts) : TmOk s ts := fun q hq => by
  obtain ⟨h1, h2, h3, h4⟩ := h q hq
  exact ⟨h1, fun k hk => by have := h2 k hk; omega, by omega, by omega⟩
end K04
end

section
set_option Elab.async false
set_option linter.all false
set_option maxRecDepth 100000
set_option maxHeartbeats 4000000
namespace K04
open PySem PySem.Spec PyProof.Rows Dp Rm
@[simp] theorem ix_tm0 (a b : D) (m : Mu) : opIx (.tup [a, b]) (.int 0) m = .ok (.val a) m := rfl
@[simp] theorem ix_tm1 (a b : D) (m : Mu) : opIx (.tup [a, b]) (.int 1) m = .ok (.val b) m := rfl
theorem seen_dup {ts : List (List Int × Int)} {e : List Int} : (ts.filter fun q => decide (q.1 = e)).length = 0 ↔ e ∉ ts.map (·.1) := by
  rw [List.length_eq_zero_iff, List.filter_eq_nil_iff]
  constructor
  · intro h z
    obtain ⟨q, hq, rfl⟩ := List.mem_map.mp z
    exact h q hq (by simp)
  · intro h q hq z
    exact h (List.mem_map.mpr ⟨q, hq, of_decide_eq_true z⟩)
/-- the first way: one term drawn -/
theorem t_36a (n : Nat) (P : Nat) (hP : Pr P) (s : Nat) (hs : s ≤ 100) (x3 : SV) (i : Nat) (y5 : Option SV) (ts : List (List Int × Int)) (ht : Tn P s ts) (hn : (ts.map (·.1)).Nodup) (hl : ts.length ≤ 100) (ds : List Int) :
    ∃ (ts' : List (List Int × Int)) (ds' : List Int) (s1 : Sl), Tn P s ts' ∧ (ts'.map (·.1)).Nodup ∧ ts'.length ≤ ts.length + 1 ∧ ts' ≠ [] ∧
      bodyF (callN G (n + 1)) (.nm 5) l_36_0 (.int (i : Nat)) [some (.val (.ref 0)), some (.val (.int (P : Nat))), some (.val (.int (s : Nat))), some x3, none, y5, some (.own (.lst (ts.map tmD))), none, none, none, none, none, none, none, none] (dw ds) = .nx s1 (dw ds') ∧
      wipeS s1 [10] = [some (.val (.ref 0)), some (.val (.int (P : Nat))), some (.val (.int (s : Nat))), some x3, none, some (.val (.int (i : Nat))), some (.own (.lst (ts'.map tmD))), none, none, none, none, none, none, none, none] := by
  have hq := hP.pos
  obtain ⟨es, ds1, e1, e2, e3⟩ := lcL_mem (F := lcF (callN G (n + 1)) [some (.val (.ref 0)), some (.val (.int (P : Nat))), some (.val (.int (s : Nat))), some x3, none, some (.val (.int (i : Nat))), some (.own (.lst (ts.map tmD))), none, none, none, none, none, none, none, none] (.nm 9) .none (.call 3 (.cons (.var 0) (.cons (.var 1) .nil)))) (fun i : Nat => D.int (i : Nat)) dw (fun v => 0 ≤ v ∧ v < (P : Int)) (fun x b => by
    obtain ⟨v, b', h1, h2, h3⟩ := c_3 n (P : Int) (by omega) b []
    exact ⟨v, b', ⟨h1, h2⟩, by simp -implicitDefEqProofs [↓evS_for, ↓evE_lc, ↓evE_lcd, ↓evE_lco, ↓evE_dc, evSs, evS, evE, evEs, evP, evPs, evI, evB, evBor, evBand, evO, evOB, evAnd, bindT, wipeS, lcF, h3]⟩) (List.range s) [] ds (by simp; omega)
  rw [List.length_range] at e1
  have r := r62_nat (n := s) (by omega)
  rw [List.nil_append] at e3
  have lk := lcL_filterf (m := dw ds1) (F := lcF (callN G (n + 1)) [some (.val (.ref 0)), some (.val (.int (P : Nat))), some (.val (.int (s : Nat))), some x3, none, some (.val (.int (i : Nat))), some (.own (.lst (ts.map tmD))), none, none, none, some (.val (pt es)), none, none, none, none] (.nm 12) (.some (.cmp .eq (.e (.idx (.e (.var 12)) (.int 0))) (.e (.var 10)))) (.var 12)) (fun q : List Int × Int => decide (q.1 = es)) tmD tmD ts [] (by simp; omega) (fun q hq2 => by
    have i0 : opIx (tmD q) (.int 0) (dw ds1) = .ok (.val (pt q.1)) (dw ds1) := rfl
    by_cases hz : q.1 = es <;> simp -implicitDefEqProofs [↓evS_for, ↓evE_lc, ↓evE_lcd, ↓evE_lco, ↓evE_dc, evSs, evS, evE, evEs, evP, evPs, evI, evB, evBor, evBand, evO, evOB, evAnd, bindT, wipeS, lcF, i0, hz])
  rw [List.nil_append] at lk
  by_cases hd : (ts.filter fun q => decide (q.1 = es)).length = 0
  · obtain ⟨v, ds2, h1, h2, h3⟩ := c_3 n ((P : Int) - 1) (by omega) ds1 []
    have z0 : ts.length < sizeLine := szl (n := ts.length + 1) (by omega)
    have z2 : (2 : Nat) ≤ sizeLine := szl (by decide)
    refine ⟨ts ++ [(es, 1 + v)], ds2, [some (.val (.ref 0)), some (.val (.int (P : Nat))), some (.val (.int (s : Nat))), some x3, none, some (.val (.int (i : Nat))), some (.own (.lst ((ts ++ [(es, 1 + v)]).map tmD))), none, none, none, some (.val (pt es)), none, none, none, none], fun q hq => ?_, ?_, by simp, by simp, ?_, rfl⟩
    · rcases List.mem_append.mp hq with hq | hq
      · exact ht q hq
      · rw [List.mem_singleton] at hq
        subst hq
        exact ⟨e1, e2, by show 0 < 1 + v; omega, by show 1 + v < _; omega⟩
    · rw [List.map_append]
      refine List.nodup_append.mpr ⟨hn, by simp, fun a ha b hb z => ?_⟩
      have hb : b = es := by simpa using hb
      rw [z, hb] at ha
      exact seen_dup.mp hd ha
    · simp -implicitDefEqProofs [↓evS_for, ↓evE_lc, ↓evE_lcd, ↓evE_lco, ↓evE_dc, evSs, evS, evE, evEs, evP, evPs, evI, evB, evBor, evBand, evO, evOB, evAnd, bindT, wipeS, bodyF, l_36_0, r, e3, lk, hd, h3, isL, chgO, opM, z0, z2]
  · refine ⟨ts, ds1, [some (.val (.ref 0)), some (.val (.int (P : Nat))), some (.val (.int (s : Nat))), some x3, none, some (.val (.int (i : Nat))), some (.own (.lst (ts.map tmD))), none, none, none, some (.val (pt es)), none, none, none, none], ht, hn, by omega, fun z => by rw [z] at hd; exact hd rfl, ?_, rfl⟩
    simp -implicitDefEqProofs [↓evS_for, ↓evE_lc, ↓evE_lcd, ↓evE_lco, ↓evE_dc, evSs, evS, evE, evEs, evP, evPs, evI, evB, evBor, evBand, evO, evOB, evAnd, bindT, wipeS, bodyF, l_36_0, r, e3, lk, hd]
end K04
end

section
set_option Elab.async false
set_option linter.all false
set_option maxRecDepth 100000
set_option maxHeartbeats 4000000
namespace K04
open PySem PySem.Spec PyProof.Rows Dp Rm
theorem l_36a (n : Nat) (P : Nat) (hP : Pr P) (s : Nat) (hs : s ≤ 100) (x3 : SV) (k : Nat) (hk : 0 < k ∧ k ≤ 10) (ds : List Int) :
    ∃ (ts : List (List Int × Int)) (ds' : List Int) (y5 : Option SV), Tn P s ts ∧ (ts.map (·.1)).Nodup ∧ ts.length ≤ 10 ∧ ts ≠ [] ∧
      forL [10] (bodyF (callN G (n + 1)) (.nm 5) l_36_0) ((List.range k).map fun i : Nat => D.int (i : Nat)) [some (.val (.ref 0)), some (.val (.int (P : Nat))), some (.val (.int (s : Nat))), some x3, none, none, some (.own (.lst [])), none, none, none, none, none, none, none, none] (dw ds) = .nx [some (.val (.ref 0)), some (.val (.int (P : Nat))), some (.val (.int (s : Nat))), some x3, none, y5, some (.own (.lst (ts.map tmD))), none, none, none, none, none, none, none, none] (dw ds') := by
  obtain ⟨⟨ts, ds', y5⟩, ⟨h1, h2, h3, h4⟩, key⟩ := forL_ex (fg := [10]) (F := bodyF (callN G (n + 1)) (.nm 5) l_36_0) (fun i : Nat => D.int (i : Nat)) (fun b : List (List Int × Int) × List Int × Option SV => [some (.val (.ref 0)), some (.val (.int (P : Nat))), some (.val (.int (s : Nat))), some x3, none, b.2.2, some (.own (.lst (b.1.map tmD))), none, none, none, none, none, none, none, none]) (fun b => dw b.2.1)
    (fun xs b => Tn P s b.1 ∧ (b.1.map (·.1)).Nodup ∧ b.1.length + xs.length ≤ k ∧ (xs.length < k → b.1 ≠ []))
    (fun i xs b hb => by
      obtain ⟨g1, g2, g3, g4⟩ := hb
      rw [List.length_cons] at g3
      obtain ⟨ts', ds', s1, q1, q2, q3, q4, q5, q6⟩ := t_36a n P hP s hs x3 i b.2.2 b.1 g1 g2 (by omega) b.2.1
      exact ⟨(ts', ds', some (.val (.int (i : Nat)))), ⟨q1, q2, by show ts'.length + xs.length ≤ k; omega, fun _ => q4⟩, s1, q5, q6⟩)
    (List.range k) ([], ds, none) ⟨fun q hq => by simp at hq, by simp, by simp, fun h => by simp at h⟩
  have h3 : ts.length + 0 ≤ k := h3
  exact ⟨ts, ds', y5, h1, h2, by omega, h4 (by simpa using hk.1), key⟩
/-- the second way -/
theorem t_36b (n : Nat) (m : Mu) (P : Nat) (hP : Pr P) (s : Nat) (hs : s ≤ 100) (x0 : SV) (ps : List (List Int)) (hps : ∀ x ∈ ps, x.length = s ∧ ∀ a ∈ x, 0 ≤ a ∧ a < (P : Int)) (y5 : Option SV) (nm : List Int) (hnm : nm.length = s ∧ ∀ a ∈ nm, 0 ≤ a ∧ a < (P : Int)) (less : Int) (j : Nat) (hj : j < ps.length) (y9 : Option SV) (tb : List Int) (ht : tb.length = ps.length ∧ ∀ a ∈ tb, 0 ≤ a ∧ a < (P : Int)) :
    ∃ (tb' : List Int) (s1 : Sl), (tb'.length = ps.length ∧ ∀ a ∈ tb', 0 ≤ a ∧ a < (P : Int)) ∧
      bodyF (callN G (n + 1)) (.nm 9) l_36_1 (.int (j : Nat)) [some x0, some (.val (.int (P : Nat))), some (.val (.int (s : Nat))), some (.val (pl ps)), some (.own (.lst (tb.map .int))), y5, none, some (.val (.lst (nm.map .int))), some (.val (.int less)), y9, none, none, none, none, none] m = .nx s1 m ∧
      wipeS s1 [11] = [some x0, some (.val (.int (P : Nat))), some (.val (.int (s : Nat))), some (.val (pl ps)), some (.own (.lst (tb'.map .int))), y5, none, some (.val (.lst (nm.map .int))), some (.val (.int less)), some (.val (.int (j : Nat))), none, none, none, none, none] := by
  have hq := hP.pos
  obtain ⟨x, hx⟩ : ∃ x, ps[j]? = some x := ⟨ps[j], List.getElem?_eq_getElem hj⟩
  obtain ⟨hx1, hx2⟩ := hps x (List.mem_of_getElem? hx)
  have ix : opIx (pl ps) (.int (j : Nat)) m = .ok (.val (pt x)) m := ix_lst (by omega) (by simp [hx])
  have lk := lcL_mapf (m := m) (F := lcF (callN G (n + 1)) [some x0, some (.val (.int (P : Nat))), some (.val (.int (s : Nat))), some (.val (pl ps)), some (.own (.lst (tb.map .int))), y5, none, some (.val (.lst (nm.map .int))), some (.val (.int less)), some (.val (.int (j : Nat))), none, none, none, none, none] (.nm 14) .none (.bin .mul (.e (.idx (.e (.var 7)) (.var 14))) (.e (.idx (.e (.idx (.e (.var 3)) (.var 9))) (.var 14))))) (fun i : Nat => D.int (i : Nat)) (fun k : Nat => D.int (gi nm k * gi x k)) (List.range s) [] (by simp; omega) (fun k hk => by
    have hk := List.mem_range.mp hk
    have x1 := ix_ls (l := nm) (i := k) (m := m) (by omega)
    have x2 := ix_pt (l := x) (i := k) (m := m) (by omega)
    rw [← gi_ga] at x1 x2
    have b1 := hnm.2 _ (gi_mem (l := nm) (j := k) (by omega))
    have bm := b_mul (i := gi nm k) (j := gi x k) (m := m) (.inl ⟨by omega, by omega⟩)
    simp -implicitDefEqProofs [↓evS_for, ↓evE_lc, ↓evE_lcd, ↓evE_lco, ↓evE_dc, evSs, evS, evE, evEs, evP, evPs, evI, evB, evBor, evBand, evO, evOB, evAnd, bindT, wipeS, lcF, ix, x1, x2, bm])
  have e : ((List.range s).map fun k : Nat => D.int (gi nm k * gi x k)) = ((List.range s).map fun k : Nat => gi nm k * gi x k).map .int := by
    rw [List.map_map]
    rfl
  rw [e, List.nil_append] at lk
  have fs := f_sumL ((List.range s).map fun k : Nat => gi nm k * gi x k) m
  have r := r62_nat (n := s) (by omega)
  generalize hS : ((List.range s).map fun k : Nat => gi nm k * gi x k) = S at *
  have hjt : j < tb.length := by omega
  have x3 := ix_ls (l := tb) (i := j) (m := m) hjt
  rw [← gi_ga] at x3
  have b3 := ht.2 _ (gi_mem hjt)
  have bm := b_mul (i := gi tb j) (j := S.sum - less) (m := m) (.inl ⟨by omega, by omega⟩)
  have bd := b_mod (i := gi tb j * (S.sum - less)) (j := (P : Int)) (m := m) (by omega)
  have st := set_ls (v := gi tb j * (S.sum - less) % (P : Int)) hjt
  refine ⟨tb.set j (gi tb j * (S.sum - less) % (P : Int)), [some x0, some (.val (.int (P : Nat))), some (.val (.int (s : Nat))), some (.val (pl ps)), some (.own (.lst ((tb.set j (gi tb j * (S.sum - less) % (P : Int))).map .int))), y5, none, some (.val (.lst (nm.map .int))), some (.val (.int less)), some (.val (.int (j : Nat))), none, some (.val (.int S.sum)), none, none, none], ⟨by rw [List.length_set]; exact ht.1, fun a ha => ?_⟩, ?_, rfl⟩
  · rcases List.mem_or_eq_of_mem_set ha with h | h
    · exact ht.2 a h
    · rw [h]
      exact ⟨Int.emod_nonneg _ (by omega), Int.emod_lt_of_pos _ (by omega)⟩
  · simp -implicitDefEqProofs [↓evS_for, ↓evE_lc, ↓evE_lcd, ↓evE_lco, ↓evE_dc, evSs, evS, evE, evEs, evP, evPs, evI, evB, evBor, evBand, evO, evOB, evAnd, bindT, wipeS, bodyF, l_36_1, r, lk, fs, isO, x3, bm, bd, chgO, st]
theorem t_36c (n : Nat) (P : Nat) (hP : Pr P) (s : Nat) (hs : s ≤ 100) (ps : List (List Int)) (hl : ps.length ≤ 200) (hps : ∀ x ∈ ps, x.length = s ∧ ∀ a ∈ x, 0 ≤ a ∧ a < (P : Int)) (i : Nat) (y5 y9 : Option SV) (tb : List Int) (ht : tb.length = ps.length ∧ ∀ a ∈ tb, 0 ≤ a ∧ a < (P : Int)) (ds : List Int) :
    ∃ (tb' ds' : List Int) (y9' : Option SV) (s1 : Sl), (tb'.length = ps.length ∧ ∀ a ∈ tb', 0 ≤ a ∧ a < (P : Int)) ∧
      bodyF (callN G (n + 1)) (.nm 5) l_36_2 (.int (i : Nat)) [some (.val (.ref 0)), some (.val (.int (P : Nat))), some (.val (.int (s : Nat))), some (.val (pl ps)), some (.own (.lst (tb.map .int))), y5, none, none, none, y9, none, none, none, none, none] (dw ds) = .nx s1 (dw ds') ∧
      wipeS s1 [7, 8, 11] = [some (.val (.ref 0)), some (.val (.int (P : Nat))), some (.val (.int (s : Nat))), some (.val (pl ps)), some (.own (.lst (tb'.map .int))), some (.val (.int (i : Nat))), none, none, none, y9', none, none, none, none, none] := by
  have hq := hP.pos
  obtain ⟨nm, ds1, e1, e2, e3⟩ := lcL_mem (F := lcF (callN G (n + 1)) [some (.val (.ref 0)), some (.val (.int (P : Nat))), some (.val (.int (s : Nat))), some (.val (pl ps)), some (.own (.lst (tb.map .int))), some (.val (.int (i : Nat))), none, none, none, none, none, none, none, none, none] (.nm 9) .none (.call 3 (.cons (.var 0) (.cons (.var 1) .nil)))) (fun i : Nat => D.int (i : Nat)) dw (fun v => 0 ≤ v ∧ v < (P : Int)) (fun x b => by
    obtain ⟨v, b', h1, h2, h3⟩ := c_3 n (P : Int) (by omega) b []
    exact ⟨v, b', ⟨h1, h2⟩, by simp -implicitDefEqProofs [↓evS_for, ↓evE_lc, ↓evE_lcd, ↓evE_lco, ↓evE_dc, evSs, evS, evE, evEs, evP, evPs, evI, evB, evBor, evBand, evO, evOB, evAnd, bindT, wipeS, lcF, h3]⟩) (List.range s) [] ds (by simp; omega)
  rw [List.length_range] at e1
  rw [List.nil_append] at e3
  obtain ⟨less, ds2, l1, l2, l3⟩ := c_3 n (P : Int) (by omega) ds1 []
  obtain ⟨⟨tb', y9'⟩, ⟨h1, _⟩, key⟩ := forL_ex (fg := [11]) (F := bodyF (callN G (n + 1)) (.nm 9) l_36_1) (fun i : Nat => D.int (i : Nat)) (fun b : List Int × Option SV => [some (.val (.ref 0)), some (.val (.int (P : Nat))), some (.val (.int (s : Nat))), some (.val (pl ps)), some (.own (.lst (b.1.map .int))), some (.val (.int (i : Nat))), none, some (.val (.lst (nm.map .int))), some (.val (.int less)), b.2, none, none, none, none, none]) (fun _ => dw ds2)
    (fun xs b => (b.1.length = ps.length ∧ ∀ a ∈ b.1, 0 ≤ a ∧ a < (P : Int)) ∧ ∀ j ∈ xs, j < ps.length)
    (fun j xs b hb => by
      obtain ⟨g1, g2⟩ := hb
      obtain ⟨tb', s1, q1, q2, q3⟩ := t_36b n (dw ds2) P hP s hs (.val (.ref 0)) ps hps (some (.val (.int (i : Nat)))) nm ⟨e1, e2⟩ less j (g2 j (by simp)) b.2 b.1 g1
      exact ⟨(tb', some (.val (.int (j : Nat)))), ⟨q1, fun z hz => g2 z (by simp [hz])⟩, s1, q2, q3⟩)
    (List.range ps.length) (tb, y9) ⟨ht, fun j hj => List.mem_range.mp hj⟩
  have r := r62_nat (n := s) (by omega)
  have r2 := r62_nat (n := ps.length) (by omega)
  refine ⟨tb', ds2, y9', [some (.val (.ref 0)), some (.val (.int (P : Nat))), some (.val (.int (s : Nat))), some (.val (pl ps)), some (.own (.lst (tb'.map .int))), some (.val (.int (i : Nat))), none, some (.val (.lst (nm.map .int))), some (.val (.int less)), y9', none, none, none, none, none], h1, ?_, rfl⟩
  simp -implicitDefEqProofs [↓evS_for, ↓evE_lc, ↓evE_lcd, ↓evE_lco, ↓evE_dc, evSs, evS, evE, evEs, evP, evPs, evI, evB, evBor, evBand, evO, evOB, evAnd, bindT, wipeS, bodyF, l_36_2, r, e3, l3, r2, key]
end K04
end

section
set_option Elab.async false
set_option linter.all false
set_option maxRecDepth 100000
set_option maxHeartbeats 4000000
namespace K04
open PySem PySem.Spec PyProof.Rows Dp Rm
theorem lcsum (n : Nat) (m : Mu) (ts : List (List Int × Int)) (hl : ts.length ≤ 9000) (s0 : Sl) (h12 : 12 < s0.length) : lcL (lcF (callN G n) s0 (.nm 12) .none (.bif .sum (.cons (.e (.idx (.e (.var 12)) (.int 0))) .nil))) (ts.map tmD) [] m = .ok (ts.map fun q => .int q.1.sum) m := by
  have lk := lcL_mapf (m := m) (F := lcF (callN G n) s0 (.nm 12) .none (.bif .sum (.cons (.e (.idx (.e (.var 12)) (.int 0))) .nil))) tmD (fun q => D.int q.1.sum) ts [] (by simpa using hl) (fun q _ => by
    have fs := f_sum q.1 m
    have e : (s0.set 12 (some (.val (tmD q))))[12]? = some (some (.val (tmD q))) := List.getElem?_set_self h12
    simp -implicitDefEqProofs [↓evS_for, ↓evE_lc, ↓evE_lcd, ↓evE_lco, ↓evE_dc, evSs, evS, evE, evEs, evP, evPs, evI, evB, evBor, evBand, evO, evOB, evAnd, bindT, wipeS, lcF, e, fs])
  rw [List.nil_append] at lk
  exact lk
theorem w_zero {P : Nat} [NeZero P] (hP : 2 ≤ P) : ∀ s, w P s 0 = P ^ s
  | 0 => rfl
  | s + 1 => by rw [w_low s 0 (by omega), Nat.pow_succ, Nat.sub_zero, Nat.mul_comm]
theorem c_36 (n : Nat) (P : Nat) (hP : Pr P) (s : Nat) (hN : P ^ s ≤ 200) (ds : List Int) :
    ∃ (d pl' : Int) (ds' : List Int), 0 ≤ d ∧ d ≤ (s : Int) * ((P : Int) - 1) ∧ fewI P s d ≤ pl' ∧ callN G (n + 4) 36 [.ref 0, .int (P : Nat), .int (s : Nat), pl (ptsI P s)] (dw ds) = .ok (.own (.lst [.int d, .int pl'])) (dw ds') := by
  have hq := hP.pos
  have hq2 : 2 ≤ P ∧ P ≤ 13 := by omega
  have hs : s ≤ 100 := by
    apply Classical.byContradiction
    intro hn
    have h1 : 2 ^ 8 ≤ P ^ s := Nat.le_trans (Nat.pow_le_pow_left hq2.1 8) (Nat.pow_le_pow_right (by omega) (by omega))
    omega
  haveI : NeZero P := ⟨by omega⟩
  have hlen : (ptsI P s).length = P ^ s := ptsI_len P s
  have hcast : ((s * (P - 1) : Nat) : Int) = (s : Int) * ((P : Int) - 1) := by rw [Int.natCast_mul, show ((P - 1 : Nat) : Int) = (P : Int) - 1 by omega]
  have z2 : (2 : Nat) ≤ sizeLine := szl (by decide)
  have z1 : (1 : Nat) ≤ sizeLine := szl (by decide)
  obtain ⟨v, ds1, v0, v1, v2⟩ := c_3 (n + 2) 3 (by decide) ds []
  obtain ⟨u, ds2, u0, u1, u2⟩ := c_3 (n + 2) 6 (by decide) ds1 []
  obtain ⟨k, hk⟩ : ∃ k : Nat, 1 + u = (k : Int) := ⟨(1 + u).toNat, by omega⟩
  have r := r62_nat (n := k) (by omega)
  by_cases hv : v = 1
  · obtain ⟨⟨tb, ds3, y5, y9⟩, h1, key⟩ := forL_ex (fg := [7, 8, 11]) (F := bodyF (callN G (n + 3)) (.nm 5) l_36_2) (fun i : Nat => D.int (i : Nat)) (fun b : List Int × List Int × Option SV × Option SV => [some (.val (.ref 0)), some (.val (.int (P : Nat))), some (.val (.int (s : Nat))), some (.val (pl (ptsI P s))), some (.own (.lst (b.1.map .int))), b.2.2.1, none, none, none, b.2.2.2, none, none, none, none, none]) (fun b => dw b.2.1)
      (fun xs b => b.1.length = (ptsI P s).length ∧ ∀ a ∈ b.1, 0 ≤ a ∧ a < (P : Int))
      (fun i xs b hb => by
        obtain ⟨tb', ds', y9', s1, q1, q2, q3⟩ := t_36c (n + 2) P hP s hs (ptsI P s) (by omega) (fun x hx => ptsI_mem hx) i b.2.2.1 b.2.2.2 b.1 hb b.2.1
        exact ⟨(tb', ds', some (.val (.int (i : Nat))), y9'), q1, s1, q2, q3⟩)
      (List.range k) (List.replicate (P ^ s) 1, ds2, none, none) ⟨by simp [hlen], fun a ha => by rw [List.mem_replicate] at ha; omega⟩
    dsimp only at h1 key
    rw [hlen] at h1
    have ml := mul_ls 1 (P ^ s) (by omega) (dw ds1)
    rw [List.map_replicate] at ml key
    have c37 := c_37 (n + 1) (dw ds3) P hq2 s hN tb h1.1 h1.2
    have htn := trms_tn hP h1.1 h1.2
    have hps : ((List.map pt (ptsI P s)).length : Int) = ((P ^ s : Nat) : Int) := by rw [List.length_map, hlen]
    by_cases hz : trmsR P s tb = []
    · refine ⟨0, (P ^ s : Nat), ds3, Int.le_refl _, by rw [← hcast]; omega, ?_, ?_⟩
      · have := fewI_w P hq2.1 s 0 (Nat.zero_le _)
        rw [show ((0 : Nat) : Int) = 0 from rfl] at this
        rw [this, w_zero hq2.1]
        exact Int.le_refl _
      · rw [hz] at c37
        rw [List.map_nil] at c37
        generalize hNN : P ^ s = N at *
        rw [o_36]
        simp -implicitDefEqProofs [↓evS_for, ↓evE_lc, ↓evE_lcd, ↓evE_lco, ↓evE_dc, evSs, evS, evE, evEs, evP, evPs, evI, evB, evBor, evBand, evO, evOB, evAnd, bindT, wipeS, b_36, v2, hv, ml, u2, hk, r, key, c37, hlen, z2, z1]
    · obtain ⟨d, d1, d2, d3⟩ := max_ok htn hz (dw ds3)
      have hb := boundB hP h1.1 h1.2 hz d2
      have tl : (trmsR P s tb).length ≤ 9000 := by
        unfold trmsR
        rw [List.length_map]
        refine Nat.le_trans (List.length_filter_le _ _) ?_
        rw [List.length_range]
        omega
      have ln : ¬ ((trmsR P s tb).length = 0) := fun z => hz (List.eq_nil_of_length_eq_zero z)
      have lk := lcL_filterf (m := dw ds3) (F := lcF (callN G (n + 3)) [some (.val (.ref 0)), some (.val (.int (P : Nat))), some (.val (.int (s : Nat))), some (.val (pl (ptsI P s))), some (.val (.lst (tb.map .int))), y5, some (.val (.lst ((trmsR P s tb).map tmD))), none, none, y9, none, none, none, none, none] (.nm 13) (.some (.cmp .ne (.e (.var 13)) (.e (.int 0)))) (.var 13)) (fun a : Int => decide (a ≠ 0)) D.int D.int tb [] (by simp; omega) (fun a _ => by
        by_cases ha : a = 0 <;> simp -implicitDefEqProofs [↓evS_for, ↓evE_lc, ↓evE_lcd, ↓evE_lco, ↓evE_dc, evSs, evS, evE, evEs, evP, evPs, evI, evB, evBor, evBand, evO, evOB, evAnd, bindT, wipeS, lcF, ha])
      rw [List.nil_append] at lk
      refine ⟨(d : Nat), ((tb.filter fun a => decide (a ≠ 0)).length : Nat), ds3, by omega, by rw [← hcast]; omega, by rw [fewI_w P hq2.1 s d d1]; exact Int.ofNat_le.mpr hb.2, ?_⟩
      have ls := lcsum (n + 3) (dw ds3) (trmsR P s tb) tl [some (.val (.ref 0)), some (.val (.int (P : Nat))), some (.val (.int (s : Nat))), some (.val (pl (ptsI P s))), some (.val (.lst (tb.map .int))), y5, some (.val (.lst ((trmsR P s tb).map tmD))), none, none, y9, none, none, none, none, none] (by simp)
      generalize hT : trmsR P s tb = T at *
      generalize hF : (tb.filter fun a => decide (a ≠ 0)) = F at *
      generalize hNN : P ^ s = N at *
      rw [o_36]
      simp -implicitDefEqProofs [↓evS_for, ↓evE_lc, ↓evE_lcd, ↓evE_lco, ↓evE_dc, evSs, evS, evE, evEs, evP, evPs, evI, evB, evBor, evBand, evO, evOB, evAnd, bindT, wipeS, b_36, v2, hv, ml, u2, hk, r, key, c37, hlen, z2, z1, ln, ls, d3, lk]
  · obtain ⟨ts, ds3, y5, q1, q2, q3, q4, key⟩ := l_36a (n + 2) P hP s hs (.val (pl (ptsI P s))) k ⟨by omega, by omega⟩ ds2
    obtain ⟨d, d1, d2, d3⟩ := max_ok q1 q4 (dw ds3)
    have hb := boundA hP q1 q2 q4 d2
    have c33 := c_33 n (dw ds3) (P : Int) (by omega) s hs ts (tm_ok hq2.2 q1) (ptsI P s) (fun x hx => pt_ok hq2.2 hx) (by omega) _ (.inl rfl)
    have ls := lcsum (n + 3) (dw ds3) ts (by omega) [some (.val (.ref 0)), some (.val (.int (P : Nat))), some (.val (.int (s : Nat))), some (.val (pl (ptsI P s))), none, y5, some (.val (.lst (ts.map tmD))), none, none, none, none, none, none, none, none] (by simp)
    refine ⟨(d : Nat), (placesR P ts (ptsI P s) : Nat), ds3, by omega, by rw [← hcast]; omega, by rw [fewI_w P hq2.1 s d d1]; exact Int.ofNat_le.mpr hb, ?_⟩
    generalize placesR P ts (ptsI P s) = pp at *
    rw [o_36]
    simp -implicitDefEqProofs [↓evS_for, ↓evE_lc, ↓evE_lcd, ↓evE_lco, ↓evE_dc, evSs, evS, evE, evEs, evP, evPs, evI, evB, evBor, evBand, evO, evOB, evAnd, bindT, wipeS, b_36, v2, hv, u2, hk, r, key, ls, d3, c33, z2]
end K04
end

section
set_option Elab.async false
set_option linter.all false
/-! The program's polynomials, reckoned purely. -/
namespace Rm
open PySem Dp
abbrev LT := List (List Int × Int)
def adG (e : List Int) (v : Int) (f : LT) : LT := if (f.any fun q => decide (q.1 = e)) = true then f.map (fun q => if q.1 = e then (q.1, v) else q) else f ++ [(e, v)]
def coG (f : LT) (e : List Int) : Int := ((f.find? fun q => decide (q.1 = e)).map (·.2)).getD 0
def cmb (p : Int) (l r : List Int) : List Int := (l.zip r).map fun q => if q.1 + q.2 < p then q.1 + q.2 else q.1 + q.2 - p + 1
def mulG (p : Int) (one other : LT) : LT := one.foldl (fun f l => other.foldl (fun f r => adG (cmb p l.1 r.1) (coG f (cmb p l.1 r.1) + l.2 * r.2) f) f) []
def cobG (one other : LT) (scale : Int) : LT := other.foldl (fun f q => adG q.1 (coG f q.1 + scale * q.2) f) (one.foldl (fun f q => adG q.1 q.2 f) [])
def trP (q : List Int × Int) : PyData := .tuple [.int q.1.sum, .tuple (q.1.map .int), .int q.2]
def leT (x y : List Int × Int) : Bool := ltData (trP x) (trP y)
def insT (x : List Int × Int) : LT → LT
  | [] => [x]
  | y :: r => if leT x y = true then x :: y :: r else y :: insT x r
def isrtT : LT → LT
  | [] => []
  | x :: r => insT x (isrtT r)
def ordG (p : Int) (f : LT) : LT := (isrtT (f.map fun q => (q.1, coG f q.1 % p))).filter fun q => decide (q.2 ≠ 0)
/-- told * other -/
def mulT (p : Int) (a b : LT) : LT := ordG p (mulG p a b)
def zer (s : Nat) : List Int := List.replicate s 0
/-- e_i, k times -/
def uni (s i : Nat) (k : Int) : List Int := (zer s).take i ++ [k] ++ (zer s).drop (i + 1)
def besT (s : Nat) (k : Int) : LT := if k = 0 then [] else [(zer s, k)]
def subT (p : Int) (s : Nat) (a : LT) (k : Int) : LT := ordG p (cobG a (besT s k) (-1))
def fp1 (p : Int) (s : Nat) : Nat → LT
  | 0 => ordG p [(zer s, 1)]
  | k + 1 => mulT p (fp1 p s k) (ordG p [(zer s, 1), (uni s k (p - 1), p - 1)])
def fp2 (p : Int) (s wh : Nat) : Nat → LT
  | 0 => fp1 p s wh
  | k + 1 => mulT p (fp2 p s wh k) (subT p s (ordG p [(uni s wh 1, 1)]) k)
/-- fewest_poly's terms -/
def fpT (p : Int) (s d : Nat) : LT := fp2 p s (d / (p.toNat - 1)) (d % (p.toNat - 1))
end Rm
end

section
set_option Elab.async false
set_option linter.all false
set_option maxRecDepth 100000
/-! The check of fewest_poly's terms. -/
namespace Rm
def mulQ (p a : Int) : Nat → Int → Int
  | 0, n => n
  | k + 1, n => mulQ p a k (n * a % p)
theorem mulQ_eq (p a : Int) : ∀ (k : Nat) (n : Int), mulP p a k n = mulQ p a k n
  | 0, _ => rfl
  | k + 1, n => by
    show (List.range (k + 1)).foldl (fun t _ => t * a % p) n = mulQ p a k (n * a % p)
    rw [List.range_succ_eq_map, List.foldl_cons, List.foldl_map, ← mulQ_eq p a k]
    rfl
def monF (p : Int) : List Int → List Int → Int → Int
  | k :: e, a :: x, n => monF p e x (mulQ p a k.toNat n)
  | _, _, n => n
theorem monF_eq (p : Int) : ∀ (e x : List Int) (n : Int), e.length = x.length → (List.range x.length).foldl (fun n i => mulP p (gi x i) (gi e i).toNat n) n = monF p e x n
  | [], [], _, _ => rfl
  | [], _ :: _, _, h => by simp at h
  | _ :: _, [], _, h => by simp at h
  | k :: e, a :: x, n, h => by
    rw [List.length_cons, List.range_succ_eq_map, List.foldl_cons, List.foldl_map]
    have ih := monF_eq p e x (mulP p a k.toNat n) (by simpa using h)
    rw [mulQ_eq] at ih
    show _ = monF p e x (mulQ p a k.toNat n)
    rw [← ih, ← mulQ_eq]
    rfl
def valF (p : Int) (ts : LT) (x : List Int) : Int := (ts.foldl (fun t q => t + q.2 * monF p q.1 x 1) 0) % p
def placesF (p : Int) (ts : LT) (ps : List (List Int)) : Nat := (ps.filter fun x => decide (valF p ts x ≠ 0)).length
theorem valF_eq (p : Int) (x : List Int) (ts : LT) (h : ∀ q ∈ ts, q.1.length = x.length) : valR p ts x = valF p ts x := by
  unfold valR valF
  congr 1
  have key : ∀ (ts : LT) (t : Int), (∀ q ∈ ts, q.1.length = x.length) → ts.foldl (fun t q => t + q.2 * monR p q.1 x) t = ts.foldl (fun t q => t + q.2 * monF p q.1 x 1) t := by
    intro ts
    induction ts with
    | nil => exact fun _ _ => rfl
    | cons q ts ih =>
      intro t h
      rw [List.foldl_cons, List.foldl_cons, ih _ fun r hr => h r (by simp [hr])]
      have : monR p q.1 x = monF p q.1 x 1 := monF_eq p q.1 x 1 (h q (by simp))
      rw [this]
  exact key ts 0 h
theorem placesF_eq (p : Int) (w : Nat) (ts : LT) (ps : List (List Int)) (h : ∀ q ∈ ts, q.1.length = w) (h2 : ∀ x ∈ ps, x.length = w) : placesR p ts ps = placesF p ts ps := by
  unfold placesR placesF
  congr 1
  apply List.filter_congr
  intro x hx
  rw [valF_eq p x ts fun q hq => by rw [h q hq, h2 x hx]]
def powJ (b : Int) : Nat → Int
  | 0 => 1
  | k + 1 => powJ b k * b
def fewJ (p s d : Int) : Int := if d / (p - 1) = s then 1 else (p - d % (p - 1)) * powJ p (s - d / (p - 1) - 1).toNat
/-- the steps' sizes -/
def chkL (P s d : Nat) : Bool := ((List.range (d / (P - 1) + 1)).all fun k => decide ((fp1 (P : Int) s k).length ≤ 200)) && ((List.range (d % (P - 1) + 1)).all fun k => decide ((fp2 (P : Int) s (d / (P - 1)) k).length ≤ 200))
def chk (P s d : Nat) : Bool :=
  (fun ts : LT => (ts.all fun q => decide (q.1.length = s) && (q.1.all (fun k => decide (0 ≤ k) && decide (k < (P : Int))) && (decide (0 < q.2) && decide (q.2 < (P : Int))))) &&
  (decide (ts.map (·.1)).Nodup && (ts.all (fun q => decide (q.1.sum ≤ (d : Int))) && ((match ts.getLast? with | some q => decide (q.1.sum = (d : Int)) | none => false) &&
  decide ((placesF (P : Int) ts (ptsI P s) : Int) = fewJ P s d))))) (fpT (P : Int) s d)
def chkA (P n : Nat) : Bool := (List.range (n + 1)).all fun s => (List.range (s * (P - 1) + 1)).all fun d => chkL P s d && chk P s d
end Rm
end

section
set_option Elab.async false
set_option linter.all false
set_option maxRecDepth 100000
set_option maxHeartbeats 4000000
namespace K04
open PySem PySem.Spec PyProof.Rows Dp Rm
/-! ### a dict whose keys are rows -/
abbrev kyT (e : List Int) : List L2.Key := e.map fun i => Sum.inl i
abbrev dtK (f : LT) : List (List L2.Key) := f.map fun q => kyT q.1
abbrev dtV (f : LT) : List D := f.map fun q => D.int q.2
theorem ky_inj : ∀ {a b : List Int}, kyT a = kyT b → a = b
  | [], [], _ => rfl
  | [], _ :: _, h => by cases h
  | _ :: _, [], h => by cases h
  | x :: a, y :: b, h => by
    injection h with h1 h2
    injection h1 with h1
    rw [h1, ky_inj h2]
theorem ky_eq (a b : List Int) : decide (kyT a = kyT b) = decide (a = b) := by
  rw [Bool.eq_iff_iff, decide_eq_true_eq, decide_eq_true_eq]
  exact ⟨ky_inj, fun h => by rw [h]⟩
theorem any_dt (e : List Int) (f : LT) : ((dtK f).any fun g => decide (g = kyT e)) = f.any fun q => decide (q.1 = e) := by
  rw [List.any_map]
  congr 1
  funext q
  exact ky_eq q.1 e
theorem put_dt (e : List Int) (v : Int) (f : LT) : putKN (kyT e) (dtK f) = dtK (adG e v f) := by
  unfold putKN adG
  rw [any_dt]
  by_cases h : (f.any fun q => decide (q.1 = e)) = true
  · rw [if_pos h, if_pos h]
    show f.map (fun q => kyT q.1) = (f.map fun q => if q.1 = e then (q.1, v) else q).map fun q => kyT q.1
    rw [List.map_map]
    congr 1
    funext q
    show _ = kyT (if q.1 = e then (q.1, v) else q).1
    split <;> rfl
  · rw [if_neg h, if_neg h]
    simp [dtK]
theorem put_dtd (e : List Int) (v : Int) (f : LT) : putKD (kyT e) (.int v) (dtK f) (dtV f) = dtV (adG e v f) := by
  unfold putKD adG
  rw [any_dt]
  by_cases h : (f.any fun q => decide (q.1 = e)) = true
  · rw [if_pos h, if_pos h]
    show ((f.map fun q => kyT q.1).zip (f.map fun q => D.int q.2)).map (fun p => if p.1 = kyT e then D.int v else p.2) = (f.map fun q => if q.1 = e then (q.1, v) else q).map fun q => D.int q.2
    rw [List.map_map, List.zip_map', List.map_map]
    congr 1
    funext q
    show (if kyT q.1 = kyT e then D.int v else D.int q.2) = D.int (if q.1 = e then (q.1, v) else q).2
    by_cases hq : q.1 = e
    · rw [if_pos hq, if_pos (by rw [hq])]
    · rw [if_neg hq, if_neg fun z => hq (ky_inj z)]
  · rw [if_neg h, if_neg h]
    simp [dtV]
theorem val_dt (e : List Int) (f : LT) : valD (dtK f) (dtV f) (kyT e) = (f.find? fun q => decide (q.1 = e)).map fun q => D.int q.2 := by
  unfold valD
  rw [dtK, dtV, List.zip_map', List.find?_map, Option.map_map]
  congr 1
  congr 1
  funext q
  exact ky_eq q.1 e
theorem keysD_pt : ∀ e : List Int, keysD (e.map D.int) = some (kyT e)
  | [] => rfl
  | i :: e => by
    show (keyD (.int i)).bind (fun k => (keysD (e.map D.int)).map fun l => k :: l) = _
    rw [keysD_pt e]
    rfl
theorem dget_dt (e : List Int) (f : LT) : dgetV (.dt (dtK f) (dtV f)) (pt e) (.int 0) = some (.int (coG f e)) := by
  show (keyT (pt e)).map (fun k => (valD (dtK f) (dtV f) k).getD (.int 0)) = _
  have h : keyT (pt e) = some (kyT e) := keysD_pt e
  rw [h]
  show some ((valD (dtK f) (dtV f) (kyT e)).getD (.int 0)) = _
  rw [val_dt]
  unfold coG
  cases f.find? fun q => decide (q.1 = e) <;> rfl
theorem coG_find {f : LT} {e : List Int} (h : e ∈ f.map (·.1)) : (f.find? fun q => decide (q.1 = e)).map (fun q => D.int q.2) = some (.int (coG f e)) := by
  unfold coG
  cases hf : f.find? fun q => decide (q.1 = e) with
  | some q => rfl
  | none =>
    obtain ⟨q, hq, rfl⟩ := List.mem_map.mp h
    have := List.find?_eq_none.mp hf q hq
    simp at this
theorem ix_dt {f : LT} {e : List Int} (h : e ∈ f.map (·.1)) (m : Mu) : opIx (.dt (dtK f) (dtV f)) (pt e) m = .ok (.val (.int (coG f e))) m := by
  show (match keysD (e.map D.int) with | some k => (match valD (dtK f) (dtV f) k with | some d => R.ok (SV.val d) m | none => .bad) | none => .bad) = _
  rw [keysD_pt]
  dsimp only
  rw [val_dt, coG_find h]
theorem set_dt (e : List Int) (v : Int) (f : LT) (h : f.length < sizeLine) : opSet (.dt (dtK f) (dtV f)) (pt e) (.int v) = some (.dt (dtK (adG e v f)) (dtV (adG e v f))) := by
  show (match keysD (e.map D.int) with | some k => if (dtK f).length < sizeLine then some (Cell.dt (putKN k (dtK f)) (putKD k (.int v) (dtK f) (dtV f))) else none | none => none) = _
  rw [keysD_pt]
  dsimp only
  rw [if_pos (by simpa using h), put_dt e v, put_dtd]
theorem in_dt (e : List Int) (f : LT) (m : Mu) : opC .inn (pt e) (.dt (dtK f) (dtV f)) m = .ok (.val (.bl (f.any fun q => decide (q.1 = e)))) m := by
  refine c_of ?_
  show (keysD (e.map D.int)).map (fun k => (dtK f).any fun z => decide (z = k)) = _
  rw [keysD_pt]
  show some ((dtK f).any fun z => decide (z = kyT e)) = _
  rw [any_dt]
theorem kD_ky : ∀ e : List Int, (kyT e).map kD = e.map D.int
  | [] => rfl
  | i :: e => by
    show kD (.inl i) :: (kyT e).map kD = _
    rw [kD_ky e]
    rfl
theorem items_dt (f : LT) : ((dtK f).map fun k => D.tup (k.map kD)) = f.map fun q => pt q.1 := by
  rw [List.map_map]
  apply List.map_congr_left
  intro q _
  show D.tup ((kyT q.1).map kD) = _
  rw [kD_ky]
/-! ### terms in order -/
abbrev trD (q : List Int × Int) : D := .tup [.int q.1.sum, pt q.1, .int q.2]
theorem py_tr (q : List Int × Int) : D.py (trD q) = some (trP q) := by
  show (D.pys [.int q.1.sum, pt q.1, .int q.2]).map PyData.tuple = _
  show ((some (PyData.int q.1.sum)).bind fun p => ((D.py (pt q.1)).bind fun p2 => ((some (PyData.int q.2)).bind fun p3 => (some []).map fun ps => p3 :: ps).map fun ps => p2 :: ps).map fun ps => p :: ps).map PyData.tuple = _
  rw [py_pt]
  rfl
theorem pyD_tr (q : List Int × Int) : pyD (trD q) = trP q := by
  unfold pyD
  rw [py_tr]
  rfl
theorem pys_tr : ∀ L : LT, D.pys (L.map trD) = some (L.map trP)
  | [] => rfl
  | q :: L => by
    show (D.py (trD q)).bind (fun p => (D.pys (L.map trD)).map fun ps => p :: ps) = _
    rw [pys_tr L, py_tr]
    rfl
theorem alike_tr (a b : List Int × Int) : PySem.W.alike (trP a) (trP b) = true := by
  unfold trP
  simp only [PySem.W.alike, PySem.W.alikeAll, Bool.true_and, Bool.and_true, PySem.W.alike_ints]
theorem depth_tr (a : List Int × Int) : (trP a).depth ≤ 60 := by
  unfold trP
  simp only [PyData.depth, PyData.depthAll, PySem.W.depth_ints]
  decide
theorem srtB_tr (L : LT) : srtB (L.map trD) = true := by
  unfold srtB
  rw [pys_tr]
  simp only [Bool.and_eq_true, Bool.or_eq_true, List.all_eq_true, decide_eq_true_eq, List.mem_map]
  refine ⟨?_, .inl ?_, ?_⟩
  · rintro _ ⟨a, _, rfl⟩ _ ⟨b, _, rfl⟩
    exact alike_tr a b
  · rintro _ ⟨a, _, rfl⟩
    rfl
  · rintro _ ⟨a, _, rfl⟩
    exact depth_tr a
theorem ins_tr (x : List Int × Int) : ∀ L : LT, insD (trD x) (L.map trD) = (insT x L).map trD
  | [] => rfl
  | y :: L => by
    rw [List.map_cons]
    unfold insD insT
    rw [pyD_tr, pyD_tr]
    show (if leT x y = true then _ else _) = _
    by_cases h : leT x y = true
    · rw [if_pos h, if_pos h]
      rfl
    · rw [if_neg h, if_neg h, ins_tr x L]
      rfl
theorem isrt_tr : ∀ L : LT, isrtD (L.map trD) = (isrtT L).map trD
  | [] => rfl
  | x :: L => by
    show insD (trD x) (isrtD (L.map trD)) = _
    rw [isrt_tr L, ins_tr]
    rfl
theorem f_sorted (L : LT) (m : Mu) : opF .sorted [.lst (L.map trD)] m = .ok (.own (.lst ((isrtT L).map trD))) m := by
  show (match D.nums (L.map trD) with | some l => R.ok (SV.own (.lst ((sortI l).map .int))) m | none => srtR (L.map trD) m) = _
  cases L with
  | nil => rfl
  | cons q L =>
    have e : D.nums ((q :: L).map trD) = none := rfl
    rw [e]
    unfold srtR
    rw [if_pos (srtB_tr _), isrt_tr]
theorem insT_len (x : List Int × Int) : ∀ L : LT, (insT x L).length = L.length + 1
  | [] => rfl
  | y :: L => by
    unfold insT
    split
    · rfl
    · simp [insT_len x L]
theorem isrtT_len : ∀ L : LT, (isrtT L).length = L.length
  | [] => rfl
  | x :: L => by
    show (insT x (isrtT L)).length = _
    rw [insT_len, isrtT_len L]
    rfl
theorem c_21 (n : Nat) (m : Mu) (p : Int) (hp : 0 < p) (f : LT) (hl : f.length ≤ 9000) : callN G (n + 1) 21 [.int p, .dt (dtK f) (dtV f)] m = .ok (.val (.tup ((ordG p f).map tmD))) m := by
  have z3 : (3 : Nat) ≤ sizeLine := szl (by decide)
  have z2 : (2 : Nat) ≤ sizeLine := szl (by decide)
  have lk := lcL_mapf (m := m) (F := lcF (callN G n) [some (.val (.int p)), some (.val (.dt (dtK f) (dtV f))), none, none, none, none] (.nm 3) .none (.tup (.cons (.bif .sum (.cons (.e (.var 3)) .nil)) (.cons (.var 3) (.cons (.bin .mod (.e (.idx (.e (.var 1)) (.var 3))) (.e (.var 0))) .nil))))) (fun q : List Int × Int => pt q.1) (fun q => trD (q.1, coG f q.1 % p)) f [] (by simpa using hl) (fun q hq => by
    have ix := ix_dt (f := f) (e := q.1) (List.mem_map_of_mem hq) m
    have fs := f_sum q.1 m
    have bm := b_mod (i := coG f q.1) (j := p) (m := m) hp
    generalize dtK f = K at *
    generalize dtV f = V at *
    simp -implicitDefEqProofs [↓evS_for, ↓evE_lc, ↓evE_lcd, ↓evE_lco, ↓evE_dc, evSs, evS, evE, evEs, evP, evPs, evI, evB, evBor, evBand, evO, evOB, evAnd, bindT, wipeS, lcF, ix, fs, bm, z3])
  have it := items_dt f
  have srt := f_sorted (f.map fun q => (q.1, coG f q.1 % p)) m
  have e1 : (f.map fun q => trD (q.1, coG f q.1 % p)) = (f.map fun q => (q.1, coG f q.1 % p)).map trD := by
    rw [List.map_map]
    rfl
  rw [e1, List.nil_append] at lk
  have hS : (isrtT (f.map fun q => (q.1, coG f q.1 % p))).length ≤ 9000 := by rw [isrtT_len, List.length_map]; exact hl
  unfold ordG
  generalize (f.map fun q => (q.1, coG f q.1 % p)) = L at *
  generalize isrtT L = S at *
  have lk2 := lcL_filterf (m := m) (F := lcF (callN G n) [some (.val (.int p)), some (.val (.dt (dtK f) (dtV f))), some (.val (.lst (S.map trD))), none, none, none] (.tp [4, 3, 5]) (.some (.cmp .ne (.e (.var 5)) (.e (.int 0)))) (.tup (.cons (.var 3) (.cons (.var 5) .nil)))) (fun q : List Int × Int => decide (q.2 ≠ 0)) trD tmD S [] (by simpa using hS) (fun q _ => by
    generalize dtK f = K at *
    generalize dtV f = V at *
    by_cases hz : q.2 = 0 <;> simp -implicitDefEqProofs [↓evS_for, ↓evE_lc, ↓evE_lcd, ↓evE_lco, ↓evE_dc, evSs, evS, evE, evEs, evP, evPs, evI, evB, evBor, evBand, evO, evOB, evAnd, bindT, wipeS, lcF, hz, z2])
  rw [List.nil_append] at lk2
  generalize dtK f = K at *
  generalize dtV f = V at *
  rw [o_21]
  simp -implicitDefEqProofs [↓evS_for, ↓evE_lc, ↓evE_lcd, ↓evE_lco, ↓evE_dc, evSs, evS, evE, evEs, evP, evPs, evI, evB, evBor, evBand, evO, evOB, evAnd, bindT, wipeS, b_21, it, lk, srt, lk2]
end K04
end

section
set_option Elab.async false
set_option linter.all false
set_option maxRecDepth 100000
set_option maxHeartbeats 4000000
namespace K04
open PySem PySem.Spec PyProof.Rows Dp Rm
@[simp] theorem fz_dt (ks : List (List L2.Key)) (ds : List D) : (Cell.dt ks ds).fz = .dt ks ds := rfl
theorem c_23 (n : Nat) (m : Mu) (p : Int) (w : Nat) (e : List Int) (he : e.length = w) (hb : ∀ k ∈ e, 0 ≤ k ∧ k < p) (pl : D) : callN G (n + 2) 23 [.int p, .int (w : Nat), pt e, pl] m = .ok (.val (pt e)) m := by
  have key := forL_con (m := m) (fg := [4]) (F := bodyF (callN G (n + 1)) (.nm 4) l_23_0) D.int [some (.val (.int p)), some (.val (.int (w : Nat))), some (.val (pt e)), some (.val pl), none] e (fun k hk => by
    obtain ⟨h1, h2⟩ := hb k hk
    have c := c_6 n k m
    exact ⟨[some (.val (.int p)), some (.val (.int (w : Nat))), some (.val (pt e)), some (.val pl), some (.val (.int k))], (by simp -implicitDefEqProofs [↓evS_for, ↓evE_lc, ↓evE_lcd, ↓evE_lco, ↓evE_dc, evSs, evS, evE, evEs, evP, evPs, evI, evB, evBor, evBand, evO, evOB, evAnd, bindT, wipeS, bodyF, l_23_0, c, h1, h2]), rfl⟩)
  rw [o_23]
  simp -implicitDefEqProofs [↓evS_for, ↓evE_lc, ↓evE_lcd, ↓evE_lco, ↓evE_dc, evSs, evS, evE, evEs, evP, evPs, evI, evB, evBor, evBand, evO, evOB, evAnd, bindT, wipeS, b_23, isis_tup, he, key]
theorem enum_map {α : Type} (f : α → D) (xs : List α) : (((List.range (xs.map f).length).zip (xs.map f)).map fun q => D.tup [.int (q.1 : Nat), q.2]) = ((List.range xs.length).zip xs).map fun q => D.tup [.int (q.1 : Nat), f q.2] := by
  rw [List.length_map, List.zip_map_right, List.map_map]
  rfl
theorem ad_new {f : LT} {e : List Int} (v : Int) (h : e ∉ f.map (·.1)) : (f.any fun q => decide (q.1 = e)) = false ∧ adG e v f = f ++ [(e, v)] := by
  have h1 : (f.any fun q => decide (q.1 = e)) = false := by
    rw [Bool.eq_false_iff]
    intro z
    obtain ⟨q, hq, hd⟩ := List.any_eq_true.mp z
    exact h (List.mem_map.mpr ⟨q, hq, of_decide_eq_true hd⟩)
  refine ⟨h1, ?_⟩
  unfold adG
  rw [h1]
  rfl
theorem c_22 (n : Nat) (m : Mu) (p : Int) (w : Nat) (ts : LT) (ht : ∀ q ∈ ts, q.1.length = w ∧ (∀ k ∈ q.1, 0 ≤ k ∧ k < p) ∧ 0 < q.2 ∧ q.2 < p) (hn : (ts.map (·.1)).Nodup) (hl : ts.length ≤ 1000) : callN G (n + 3) 22 [.int p, .int (w : Nat), .tup (ts.map tmD)] m = .ok (.own (.dt (dtK ts) (dtV ts))) m := by
  obtain ⟨f, hf, key⟩ := forL_ex (fg := [4, 5, 6]) (F := bodyF (callN G (n + 2)) (.tp [4, 5]) l_22_0) (fun q : Nat × (List Int × Int) => D.tup [.int (q.1 : Nat), tmD q.2]) (fun f : LT => [some (.val (.int p)), some (.val (.int (w : Nat))), some (.val (.tup (ts.map tmD))), some (.own (.dt (dtK f) (dtV f))), none, none, none]) (fun _ => m)
    (fun xs f => f ++ xs.map (·.2) = ts)
    (fun q xs f hb => by
      rw [List.map_cons] at hb
      have hm : q.2 ∈ ts := by rw [← hb]; simp
      obtain ⟨h1, h2, h3, h4⟩ := ht q.2 hm
      have c23 := c_23 n m p w q.2.1 h1 h2 (.int (q.1 : Nat))
      have c6 := c_6 (n + 1) q.2.2 m
      have hnew : q.2.1 ∉ f.map (·.1) := fun z => by
        rw [← hb, List.map_append] at hn
        exact (List.nodup_append.mp hn).2.2 _ z q.2.1 (by simp) rfl
      obtain ⟨a1, a2⟩ := ad_new q.2.2 hnew
      have hfl : f.length < sizeLine := szl (n := f.length + 1) (by
        have := congrArg List.length hb
        simp at this
        omega)
      have ind := in_dt q.2.1 f m
      rw [a1] at ind
      have sd := set_dt q.2.1 q.2.2 f hfl
      rw [a2] at sd
      refine ⟨f ++ [q.2], by rw [← hb]; simp, [some (.val (.int p)), some (.val (.int (w : Nat))), some (.val (.tup (ts.map tmD))), some (.own (.dt (dtK (f ++ [q.2])) (dtV (f ++ [q.2])))), some (.val (.int (q.1 : Nat))), some (.val (tmD q.2)), some (.val (pt q.2.1))], ?_, rfl⟩
      generalize hK : dtK f = K at *
      generalize hV : dtV f = V at *
      generalize dtK (f ++ [(q.2.1, q.2.2)]) = K2 at *
      generalize dtV (f ++ [(q.2.1, q.2.2)]) = V2 at *
      simp -implicitDefEqProofs [↓evS_for, ↓evE_lc, ↓evE_lcd, ↓evE_lco, ↓evE_dc, evSs, evS, evE, evEs, evP, evPs, evI, evB, evBor, evBand, evO, evOB, evAnd, bindT, wipeS, bodyF, l_22_0, isis_tup, c23, c6, h3, h4, ind, isO, chgO, sd])
    ((List.range ts.length).zip ts) [] (by
      rw [List.nil_append]
      exact List.map_snd_zip (by simp))
  have hf : f = ts := by simpa using hf
  subst hf
  have em := enum_map tmD f
  rw [o_22]
  have e0 : dtK ([] : LT) = [] := rfl
  have e1 : dtV ([] : LT) = [] := rfl
  rw [e0, e1] at key
  generalize hK : dtK f = K at *
  generalize hV : dtV f = V at *
  rw [← em] at key
  generalize f.map tmD = L at *
  simp -implicitDefEqProofs [↓evS_for, ↓evE_lc, ↓evE_lcd, ↓evE_lco, ↓evE_dc, evSs, evS, evE, evEs, evP, evPs, evI, evB, evBor, evBand, evO, evOB, evAnd, bindT, wipeS, b_22, isis_tup, key]
/-! ### polynomials -/
abbrev plC (p : Int) (s : Nat) (t : LT) : Cell := .ins "Poly" ["prime", "size", "terms"] [.int p, .int (s : Nat), .tup (t.map tmD)]
abbrev plD (p : Int) (s : Nat) (t : LT) : D := .ins "Poly" ["prime", "size", "terms"] [.int p, .int (s : Nat), .tup (t.map tmD)]
theorem catGet (m : Mu) (c : Cell) : (m ++ [c])[m.length]? = some c := by simp
theorem catSet (m : Mu) (c c' : Cell) : (m ++ [c]).set m.length c' = m ++ [c'] := by simp
theorem fl1 (d : D) : opFld G.flds "prime" d (.ins "Poly" [] []) = some (.ins "Poly" ["prime"] [d]) := rfl
theorem fl2 (a d : D) : opFld G.flds "size" d (.ins "Poly" ["prime"] [a]) = some (.ins "Poly" ["prime", "size"] [a, d]) := rfl
theorem fl3 (a b d : D) : opFld G.flds "terms" d (.ins "Poly" ["prime", "size"] [a, b]) = some (.ins "Poly" ["prime", "size", "terms"] [a, b, d]) := rfl
theorem fl4 (a b c d : D) : opFld G.flds "terms" d (.ins "Poly" ["prime", "size", "terms"] [a, b, c]) = some (.ins "Poly" ["prime", "size", "terms"] [a, b, d]) := rfl
def plF : List Str := ["prime", "size", "terms"]
theorem fl0 : G.flds.lookup ("Poly" : Str) = some plF := rfl
theorem in1 : decide (("prime" : Str) ∈ plF) = true := rfl
theorem in2 : decide (("size" : Str) ∈ plF) = true := rfl
theorem in3 : decide (("terms" : Str) ∈ plF) = true := rfl
theorem g1 (a b c : D) : getFD "prime" ["prime", "size", "terms"] [a, b, c] = some a := rfl
theorem g2 (a b c : D) : getFD "size" ["prime", "size", "terms"] [a, b, c] = some b := rfl
theorem g3 (a b c : D) : getFD "terms" ["prime", "size", "terms"] [a, b, c] = some c := rfl
theorem lo_ints (k : Nat) : ∀ l : List Int, D.los k (l.map D.int) = true
  | [] => rfl
  | i :: l => lo_ints k l
theorem lo_tms (k : Nat) : ∀ t : LT, D.los k (t.map tmD) = true
  | [] => rfl
  | q :: t => by
    show ((D.los k (q.1.map D.int) && (true && true)) && D.los k (t.map tmD)) = true
    rw [lo_ints, lo_tms k t]
    rfl
theorem new_pl (m : Mu) (p : Int) (s : Nat) (t : LT) : newR m (.val .non) (m ++ [plC p s t]) = .ok (.own (plC p s t)) m := by
  have h1 : (m ++ [plC p s t]).getLast? = some (plC p s t) := by simp
  have h3 : D.lo m.length (plC p s t).fz = true := by
    show (true && (true && (D.los m.length (t.map tmD) && true))) = true
    rw [lo_tms]
    rfl
  have h2 : (m ++ [plC p s t] = m ++ [plC p s t] ∧ D.lo m.length (plC p s t).fz = true) := ⟨rfl, h3⟩
  unfold newR
  dsimp only
  rw [h1]
  dsimp only
  rw [if_pos h2]
/-- terms that the class takes -/
def TsOk (p : Int) (s : Nat) (t : LT) : Prop := (∀ q ∈ t, q.1.length = s ∧ (∀ k ∈ q.1, 0 ≤ k ∧ k < p) ∧ 0 < q.2 ∧ q.2 < p) ∧ (t.map (·.1)).Nodup ∧ t.length ≤ 1000
theorem c_20 (n : Nat) (m : Mu) (p : Int) (hp : Pr p) (s : Nat) (hs : s ≤ 90) (t : LT) (ht : TsOk p s t) : callN G (n + 4) 20 [.ref m.length, .int p, .int (s : Nat), .tup (t.map tmD)] (m ++ [.ins "Poly" [] []]) = .ok (.val .non) (m ++ [plC p s (ordG p t)]) := by
  have hq := hp.pos
  have c5 := c_5 (n + 1) p (m ++ [.ins "Poly" [] []]) hp
  have c8 := c_8 (n + 1) (s : Int) (m ++ [.ins "Poly" ["prime"] [.int p]]) (by omega)
  have c22 := c_22 n (m ++ [.ins "Poly" ["prime", "size"] [.int p, .int (s : Nat)]]) p s t ht.1 ht.2.1 ht.2.2
  have c21 := c_21 (n + 2) (m ++ [.ins "Poly" ["prime", "size"] [.int p, .int (s : Nat)]]) p (by omega) t (by have := ht.2.2; omega)
  generalize dtK t = K at *
  generalize dtV t = V at *
  generalize ordG p t = o at *
  rw [o_20]
  simp -implicitDefEqProofs [↓evS_for, ↓evE_lc, ↓evE_lcd, ↓evE_lco, ↓evE_dc, evSs, evS, evE, evEs, evP, evPs, evI, evB, evBor, evBand, evO, evOB, evAnd, bindT, wipeS, b_20, c5, chg, catGet, catSet, fl1, fl2, fl3, c8, c22, c21]
theorem ts_nil (p : Int) (s : Nat) : TsOk p s [] := ⟨fun _ h => by simp at h, by simp, by simp⟩
theorem c_26 (n : Nat) (m : Mu) (p : Int) (hp : Pr p) (s : Nat) (hs : s ≤ 90) (f : LT) (hl : f.length ≤ 9000) : callN G (n + 5) 26 [.int p, .int (s : Nat), .dt (dtK f) (dtV f)] m = .ok (.own (plC p s (ordG p f))) m := by
  have hq := hp.pos
  have c20 := c_20 n m p hp s hs [] (ts_nil p s)
  rw [List.map_nil] at c20
  have nw := new_pl m p s (ordG p [])
  have c21 := c_21 (n + 3) m p (by omega) f hl
  generalize dtK f = K at *
  generalize dtV f = V at *
  generalize ordG p f = o at *
  have e0 : ordG p ([] : LT) = [] := rfl
  rw [e0] at c20 nw
  rw [o_26]
  simp -implicitDefEqProofs [↓evS_for, ↓evE_lc, ↓evE_lcd, ↓evE_lco, ↓evE_dc, evSs, evS, evE, evEs, evP, evPs, evI, evB, evBor, evBand, evO, evOB, evAnd, bindT, wipeS, b_26, c20, nw, chg, fl4, c21]
end K04
end

section
set_option Elab.async false
set_option linter.all false
set_option maxRecDepth 100000
set_option maxHeartbeats 4000000
namespace K04
open PySem PySem.Spec PyProof.Rows Dp Rm
theorem zipD (a b : List Int) : (((a.map D.int).zip (b.map D.int)).map fun q => D.tup [q.1, q.2]) = (a.zip b).map fun q => D.tup [.int q.1, .int q.2] := by
  rw [List.zip_map, List.map_map]
  rfl
theorem adG_len (e : List Int) (v : Int) (f : LT) : (adG e v f).length ≤ f.length + 1 := by
  unfold adG
  split <;> simp
def NbOk (t : LT) : Prop := ∀ q ∈ t, q.1.length ≤ 1000 ∧ -1000 ≤ q.2 ∧ q.2 ≤ 1000
theorem t_25 (n : Nat) (m : Mu) (p : Int) (s : Nat) (a b : LT) (l : List Int × Int) (hl : l.1.length ≤ 1000 ∧ -1000 ≤ l.2 ∧ l.2 ≤ 1000) (r : List Int × Int) (f : LT) (hf : f.length < sizeLine) :
    ∃ s1, bodyF (callN G n) (.tp [7, 8]) l_25_0 (tmD r) [some (.val (.int p)), some (.val (.int (s : Nat))), some (.val (.tup (a.map tmD))), some (.val (.tup (b.map tmD))), some (.own (.dt (dtK f) (dtV f))), some (.val (pt l.1)), some (.val (.int l.2)), none, none, none, none, none] m = .nx s1 m ∧
      wipeS s1 [7, 8, 9] = [some (.val (.int p)), some (.val (.int (s : Nat))), some (.val (.tup (a.map tmD))), some (.val (.tup (b.map tmD))), some (.own (.dt (dtK (adG (cmb p l.1 r.1) (coG f (cmb p l.1 r.1) + l.2 * r.2) f)) (dtV (adG (cmb p l.1 r.1) (coG f (cmb p l.1 r.1) + l.2 * r.2) f)))), some (.val (pt l.1)), some (.val (.int l.2)), none, none, none, none, none] := by
  have lk := lcL_mapf (m := m) (F := lcF (callN G n) [some (.val (.int p)), some (.val (.int (s : Nat))), some (.val (.tup (a.map tmD))), some (.val (.tup (b.map tmD))), some (.own (.dt (dtK f) (dtV f))), some (.val (pt l.1)), some (.val (.int l.2)), some (.val (pt r.1)), some (.val (.int r.2)), none, none, none] (.tp [10, 11]) .none (.ife (.cmp .lt (.e (.bin .add (.e (.var 10)) (.e (.var 11)))) (.e (.var 0))) (.bin .add (.e (.var 10)) (.e (.var 11))) (.bin .add (.e (.bin .sub (.e (.bin .add (.e (.var 10)) (.e (.var 11)))) (.e (.var 0)))) (.e (.int 1))))) (fun q : Int × Int => D.tup [.int q.1, .int q.2]) (fun q => D.int (if q.1 + q.2 < p then q.1 + q.2 else q.1 + q.2 - p + 1)) (l.1.zip r.1) [] (by
      rw [List.length_zip]
      simp
      omega) (fun q _ => by
    by_cases hz : q.1 + q.2 < p <;> simp -implicitDefEqProofs [↓evS_for, ↓evE_lc, ↓evE_lcd, ↓evE_lco, ↓evE_dc, evSs, evS, evE, evEs, evP, evPs, evI, evB, evBor, evBand, evO, evOB, evAnd, bindT, wipeS, lcF, hz])
  have ec : ((l.1.zip r.1).map fun q => D.int (if q.1 + q.2 < p then q.1 + q.2 else q.1 + q.2 - p + 1)) = (cmb p l.1 r.1).map .int := by
    unfold cmb
    rw [List.map_map]
    rfl
  rw [ec, List.nil_append] at lk
  have zd := zipD l.1 r.1
  have bm := b_mul (i := l.2) (j := r.2) (m := m) (.inl ⟨by omega, by omega⟩)
  have dg := dget_dt (cmb p l.1 r.1) f
  have sd := set_dt (cmb p l.1 r.1) (coG f (cmb p l.1 r.1) + l.2 * r.2) f hf
  refine ⟨[some (.val (.int p)), some (.val (.int (s : Nat))), some (.val (.tup (a.map tmD))), some (.val (.tup (b.map tmD))), some (.own (.dt (dtK (adG (cmb p l.1 r.1) (coG f (cmb p l.1 r.1) + l.2 * r.2) f)) (dtV (adG (cmb p l.1 r.1) (coG f (cmb p l.1 r.1) + l.2 * r.2) f)))), some (.val (pt l.1)), some (.val (.int l.2)), some (.val (pt r.1)), some (.val (.int r.2)), some (.val (pt (cmb p l.1 r.1))), none, none], ?_, rfl⟩
  generalize cmb p l.1 r.1 = e at *
  generalize hv : coG f e + l.2 * r.2 = v at *
  generalize adG e v f = f2 at *
  generalize hK : dtK f = K at *
  generalize hV : dtV f = V at *
  generalize dtK f2 = K2 at *
  generalize dtV f2 = V2 at *
  simp -implicitDefEqProofs [↓evS_for, ↓evE_lc, ↓evE_lcd, ↓evE_lco, ↓evE_dc, evSs, evS, evE, evEs, evP, evPs, evI, evB, evBor, evBand, evO, evOB, evAnd, bindT, wipeS, bodyF, l_25_0, zd, lk, dg, bm, isO, chgO, hv, sd]
theorem l_25a (n : Nat) (m : Mu) (p : Int) (s : Nat) (a b : LT) (l : List Int × Int) (hl : l.1.length ≤ 1000 ∧ -1000 ≤ l.2 ∧ l.2 ≤ 1000) (f : LT) (hf : f.length + b.length ≤ 8500) :
    (b.foldl (fun f r => adG (cmb p l.1 r.1) (coG f (cmb p l.1 r.1) + l.2 * r.2) f) f).length ≤ f.length + b.length ∧
    forL [7, 8, 9] (bodyF (callN G n) (.tp [7, 8]) l_25_0) (b.map tmD) [some (.val (.int p)), some (.val (.int (s : Nat))), some (.val (.tup (a.map tmD))), some (.val (.tup (b.map tmD))), some (.own (.dt (dtK f) (dtV f))), some (.val (pt l.1)), some (.val (.int l.2)), none, none, none, none, none] m
      = .nx [some (.val (.int p)), some (.val (.int (s : Nat))), some (.val (.tup (a.map tmD))), some (.val (.tup (b.map tmD))), some (.own (.dt (dtK (b.foldl (fun f r => adG (cmb p l.1 r.1) (coG f (cmb p l.1 r.1) + l.2 * r.2) f) f)) (dtV (b.foldl (fun f r => adG (cmb p l.1 r.1) (coG f (cmb p l.1 r.1) + l.2 * r.2) f) f)))), some (.val (pt l.1)), some (.val (.int l.2)), none, none, none, none, none] m := by
  obtain ⟨f', ⟨h1, h2⟩, key⟩ := forL_ex (fg := [7, 8, 9]) (F := bodyF (callN G n) (.tp [7, 8]) l_25_0) tmD (fun f : LT => [some (.val (.int p)), some (.val (.int (s : Nat))), some (.val (.tup (a.map tmD))), some (.val (.tup (b.map tmD))), some (.own (.dt (dtK f) (dtV f))), some (.val (pt l.1)), some (.val (.int l.2)), none, none, none, none, none]) (fun _ => m)
    (fun xs g => xs.foldl (fun f r => adG (cmb p l.1 r.1) (coG f (cmb p l.1 r.1) + l.2 * r.2) f) g = b.foldl (fun f r => adG (cmb p l.1 r.1) (coG f (cmb p l.1 r.1) + l.2 * r.2) f) f ∧ g.length + xs.length ≤ f.length + b.length)
    (fun r xs g hg => by
      obtain ⟨g1, g2⟩ := hg
      rw [List.length_cons] at g2
      obtain ⟨s1, q1, q2⟩ := t_25 n m p s a b l hl r g (szl (n := g.length + 1) (by omega))
      have := adG_len (cmb p l.1 r.1) (coG g (cmb p l.1 r.1) + l.2 * r.2) g
      exact ⟨_, ⟨by rw [← g1, List.foldl_cons], by omega⟩, s1, q1, q2⟩)
    b f ⟨rfl, Nat.le_refl _⟩
  rw [List.foldl_nil] at h1
  subst h1
  exact ⟨by simpa using h2, key⟩
theorem c_25 (n : Nat) (m : Mu) (p : Int) (hp : Pr p) (s : Nat) (hs : s ≤ 90) (a b : LT) (ha : NbOk a) (hb : NbOk b) (hl : a.length * b.length ≤ 8000) (hlb : b.length ≤ 500) : callN G (n + 6) 25 [.int p, .int (s : Nat), .tup (a.map tmD), .tup (b.map tmD)] m = .ok (.own (plC p s (mulT p a b))) m := by
  obtain ⟨f, ⟨h1, h2, _⟩, key⟩ := forL_ex (fg := [5, 6, 7, 8, 9]) (F := bodyF (callN G (n + 5)) (.tp [5, 6]) l_25_1) tmD (fun f : LT => [some (.val (.int p)), some (.val (.int (s : Nat))), some (.val (.tup (a.map tmD))), some (.val (.tup (b.map tmD))), some (.own (.dt (dtK f) (dtV f))), none, none, none, none, none, none, none]) (fun _ => m)
    (fun xs g => xs.foldl (fun f l => b.foldl (fun f r => adG (cmb p l.1 r.1) (coG f (cmb p l.1 r.1) + l.2 * r.2) f) f) g = mulG p a b ∧ g.length + xs.length * b.length ≤ 8000 ∧ ∀ q ∈ xs, q.1.length ≤ 1000 ∧ -1000 ≤ q.2 ∧ q.2 ≤ 1000)
    (fun l xs g hg => by
      obtain ⟨g1, g2, g3⟩ := hg
      rw [List.length_cons, Nat.add_mul, Nat.one_mul] at g2
      obtain ⟨q1, q2⟩ := l_25a (n + 5) m p s a b l (g3 l (by simp)) g (by omega)
      refine ⟨b.foldl (fun f r => adG (cmb p l.1 r.1) (coG f (cmb p l.1 r.1) + l.2 * r.2) f) g, ⟨by rw [← g1, List.foldl_cons], by omega, fun q hq => g3 q (by simp [hq])⟩, [some (.val (.int p)), some (.val (.int (s : Nat))), some (.val (.tup (a.map tmD))), some (.val (.tup (b.map tmD))), some (.own (.dt (dtK (b.foldl (fun f r => adG (cmb p l.1 r.1) (coG f (cmb p l.1 r.1) + l.2 * r.2) f) g)) (dtV (b.foldl (fun f r => adG (cmb p l.1 r.1) (coG f (cmb p l.1 r.1) + l.2 * r.2) f) g)))), some (.val (pt l.1)), some (.val (.int l.2)), none, none, none, none, none], ?_, rfl⟩
      generalize (b.foldl (fun f r => adG (cmb p l.1 r.1) (coG f (cmb p l.1 r.1) + l.2 * r.2) f) g) = g' at *
      generalize hK : dtK g = K at *
      generalize hV : dtV g = V at *
      generalize dtK g' = K2 at *
      generalize dtV g' = V2 at *
      simp -implicitDefEqProofs [↓evS_for, ↓evE_lc, ↓evE_lcd, ↓evE_lco, ↓evE_dc, evSs, evS, evE, evEs, evP, evPs, evI, evB, evBor, evBand, evO, evOB, evAnd, bindT, wipeS, bodyF, l_25_1, q2])
    a [] ⟨rfl, by simpa using hl, ha⟩
  rw [List.foldl_nil] at h1
  have c26 := c_26 n m p hp s hs f (by simp at h2; omega)
  unfold mulT
  rw [← h1]
  have e0 : dtK ([] : LT) = [] := rfl
  have e1 : dtV ([] : LT) = [] := rfl
  rw [e0, e1] at key
  generalize ordG p f = o at *
  generalize hK : dtK f = K at *
  generalize hV : dtV f = V at *
  rw [o_25]
  simp -implicitDefEqProofs [↓evS_for, ↓evE_lc, ↓evE_lcd, ↓evE_lco, ↓evE_dc, evSs, evS, evE, evEs, evP, evPs, evI, evB, evBor, evBand, evO, evOB, evAnd, bindT, wipeS, b_25, key, c26]
/-! ### sums -/
theorem dcL_put {F : D → Mu → R (Option (D × D))} {m : Mu} : ∀ (a : LT) (f : LT), f.length + a.length ≤ 8000 → (∀ q ∈ a, F (tmD q) m = .ok (some (pt q.1, .int q.2)) m) → dcL F (a.map tmD) (.dt (dtK f) (dtV f)) m = .ok (.dt (dtK (a.foldl (fun f q => adG q.1 q.2 f) f)) (dtV (a.foldl (fun f q => adG q.1 q.2 f) f))) m ∧ (a.foldl (fun f q => adG q.1 q.2 f) f).length ≤ f.length + a.length
  | [], f, _, _ => ⟨rfl, by simp⟩
  | q :: a, f, hl, h => by
    rw [List.length_cons] at hl
    have al := adG_len q.1 q.2 f
    obtain ⟨i1, i2⟩ := dcL_put a (adG q.1 q.2 f) (by omega) fun r hr => h r (by simp [hr])
    rw [List.map_cons, List.foldl_cons]
    refine ⟨?_, by rw [List.length_cons]; omega⟩
    unfold dcL
    rw [h q (by simp), R.bindN_ok]
    dsimp only
    have e : dcPut (.dt (dtK f) (dtV f)) (pt q.1) (.int q.2) = some (.dt (dtK (adG q.1 q.2 f)) (dtV (adG q.1 q.2 f))) := by
      show (match keysD (q.1.map D.int) with | some k => if (dtK f).length < sizeLine then some (Cell.dt (putKN k (dtK f)) (putKD k (.int q.2) (dtK f) (dtV f))) else none | none => none) = _
      rw [keysD_pt]
      dsimp only
      have hz : (dtK f).length < sizeLine := szl (n := (dtK f).length + 1) (by rw [List.length_map]; omega)
      rw [if_pos hz, put_dt q.1 q.2, put_dtd]
    rw [e]
    exact i1
theorem c_29 (n : Nat) (m : Mu) (p : Int) (hp : Pr p) (s : Nat) (hs : s ≤ 90) (a b : LT) (hl : a.length + b.length ≤ 1000) (sc : Int) (hsc : -1000 ≤ sc ∧ sc ≤ 1000) : callN G (n + 6) 29 [.int p, .int (s : Nat), .tup (a.map tmD), .tup (b.map tmD), .int sc] m = .ok (.own (plC p s (ordG p (cobG a b sc)))) m := by
  obtain ⟨d1, d2⟩ := dcL_put (m := m) (F := dcT (callN G (n + 5)) [some (.val (.int p)), some (.val (.int (s : Nat))), some (.val (.tup (a.map tmD))), some (.val (.tup (b.map tmD))), some (.val (.int sc)), none, none, none] (.tp [6, 7]) .none (.var 6) (.var 7)) a [] (by simp; omega) (fun q _ => by simp -implicitDefEqProofs [↓evS_for, ↓evE_lc, ↓evE_lcd, ↓evE_lco, ↓evE_dc, evSs, evS, evE, evEs, evP, evPs, evI, evB, evBor, evBand, evO, evOB, evAnd, bindT, wipeS, dcT])
  obtain ⟨⟨f, y6, y7⟩, ⟨h1, h2⟩, key⟩ := forL_ex (fg := []) (F := bodyF (callN G (n + 5)) (.tp [6, 7]) l_29_0) tmD (fun b' : LT × Option SV × Option SV => [some (.val (.int p)), some (.val (.int (s : Nat))), some (.val (.tup (a.map tmD))), some (.val (.tup (b.map tmD))), some (.val (.int sc)), some (.own (.dt (dtK b'.1) (dtV b'.1))), b'.2.1, b'.2.2]) (fun _ => m)
    (fun xs g => xs.foldl (fun f q => adG q.1 (coG f q.1 + sc * q.2) f) g.1 = cobG a b sc ∧ g.1.length + xs.length ≤ 1000)
    (fun q xs g hg => by
      obtain ⟨g1, g2⟩ := hg
      obtain ⟨g, z6, z7⟩ := g
      dsimp only at g1 g2
      rw [List.length_cons] at g2
      have al := adG_len q.1 (coG g q.1 + sc * q.2) g
      have bm := b_mul (i := sc) (j := q.2) (m := m) (.inl ⟨by omega, by omega⟩)
      have dg := dget_dt q.1 g
      have sd := set_dt q.1 (coG g q.1 + sc * q.2) g (szl (n := g.length + 1) (by omega))
      refine ⟨(adG q.1 (coG g q.1 + sc * q.2) g, some (.val (pt q.1)), some (.val (.int q.2))), ⟨by rw [← g1, List.foldl_cons], by show (adG q.1 (coG g q.1 + sc * q.2) g).length + _ ≤ _; omega⟩, [some (.val (.int p)), some (.val (.int (s : Nat))), some (.val (.tup (a.map tmD))), some (.val (.tup (b.map tmD))), some (.val (.int sc)), some (.own (.dt (dtK (adG q.1 (coG g q.1 + sc * q.2) g)) (dtV (adG q.1 (coG g q.1 + sc * q.2) g)))), some (.val (pt q.1)), some (.val (.int q.2))], ?_, rfl⟩
      generalize hv : coG g q.1 + sc * q.2 = v at *
      generalize adG q.1 v g = g' at *
      generalize hK : dtK g = K at *
      generalize hV : dtV g = V at *
      generalize dtK g' = K2 at *
      generalize dtV g' = V2 at *
      simp -implicitDefEqProofs [↓evS_for, ↓evE_lc, ↓evE_lcd, ↓evE_lco, ↓evE_dc, evSs, evS, evE, evEs, evP, evPs, evI, evB, evBor, evBand, evO, evOB, evAnd, bindT, wipeS, bodyF, l_29_0, dg, bm, isO, chgO, hv, sd])
    b (a.foldl (fun f q => adG q.1 q.2 f) [], none, none) ⟨rfl, by simp at d2 ⊢; omega⟩
  rw [List.foldl_nil] at h1
  dsimp only at h1 h2 key
  have c26 := c_26 n m p hp s hs f (by simp at h2; omega)
  rw [← h1]
  have e0 : dtK ([] : LT) = [] := rfl
  have e1 : dtV ([] : LT) = [] := rfl
  rw [e0, e1] at d1
  generalize ordG p f = o at *
  generalize (a.foldl (fun f q => adG q.1 q.2 f) []) = f0 at *
  generalize hK : dtK f = K at *
  generalize hV : dtV f = V at *
  generalize hK0 : dtK f0 = K0 at *
  generalize hV0 : dtV f0 = V0 at *
  have et : dcE true = .dt [] [] := rfl
  rw [o_29]
  simp -implicitDefEqProofs [↓evS_for, ↓evE_lc, ↓evE_lcd, ↓evE_lco, ↓evE_dc, evSs, evS, evE, evEs, evP, evPs, evI, evB, evBor, evBand, evO, evOB, evAnd, bindT, wipeS, b_29, et, d1, key, c26]
end K04
end

section
set_option Elab.async false
set_option linter.all false
set_option maxRecDepth 100000
set_option maxHeartbeats 4000000
namespace K04
open PySem PySem.Spec PyProof.Rows Dp Rm
theorem c_19 (n : Nat) (m : Mu) (p k : Int) (hk : 0 ≤ k ∧ k < p) : callN G (n + 2) 19 [.int p, .int k] m = .ok (.val (.int k)) m := by
  have c := c_6 n k m
  rw [o_19]
  simp -implicitDefEqProofs [↓evS_for, ↓evE_lc, ↓evE_lcd, ↓evE_lco, ↓evE_dc, evSs, evS, evE, evEs, evP, evPs, evI, evB, evBor, evBand, evO, evOB, evAnd, bindT, wipeS, b_19, c, hk.1, hk.2]
theorem isi_pl (p : Int) (s : Nat) (t : LT) : isTyD G.subs (plD p s t) (.own "Poly") = some true := rfl
theorem isi_plI (k : Int) : isTyD G.subs (.int k) (.own "Poly") = some false := rfl
theorem zer_ints (s : Nat) : (zer s).map D.int = List.replicate s (.int 0) := by
  unfold zer
  rw [List.map_replicate]
theorem mul_tup (s : Nat) (hs : s ≤ 90) (m : Mu) : opB .mul (.tup [.int 0]) (.int (s : Nat)) m = .ok (.val (pt (zer s))) m := by
  show guardR (tmOk [.int 0] (s : Int)) (R.ok (SV.val (.tup (List.replicate (s : Int).toNat [D.int 0]).flatten)) m) = _
  have e : tmOk [.int 0] (s : Int) = true := by
    unfold tmOk rs63
    rw [decide_eq_true (show -(2 ^ 63) ≤ (s : Int) by omega), decide_eq_true (show (s : Int) < 2 ^ 63 by omega), decide_eq_true (show (s : Int) ≤ 1000 by omega), decide_eq_true (show ([D.int 0] : List D).length ≤ 1000 by decide)]
    simp
  rw [e, guard_true]
  unfold pt
  rw [zer_ints, Int.toNat_natCast]
  have : (List.replicate s [D.int 0]).flatten = List.replicate s (D.int 0) := by
    clear e hs
    induction s with
    | zero => rfl
    | succ s ih =>
      rw [List.replicate_succ, List.flatten_cons, ih, List.replicate_succ]
      rfl
  rw [this]
theorem c_27 (n : Nat) (m : Mu) (p : Int) (s : Nat) (a b : LT) : callN G (n + 1) 27 [plD p s a, plD p s b] m = .ok (.val (.tup (b.map tmD))) m := by
  have i := isi_pl p s b
  rw [o_27]
  simp -implicitDefEqProofs [↓evS_for, ↓evE_lc, ↓evE_lcd, ↓evE_lco, ↓evE_dc, evSs, evS, evE, evEs, evP, evPs, evI, evB, evBor, evBand, evO, evOB, evAnd, bindT, wipeS, b_27, i, fl0, in1, in2, in3, g1, g2, g3]
theorem c_27i (n : Nat) (m : Mu) (p : Int) (s : Nat) (hs : s ≤ 90) (a : LT) (k : Int) (hk : 0 ≤ k ∧ k < p) : callN G (n + 3) 27 [plD p s a, .int k] m = .ok (.val (.tup ((besT s k).map tmD))) m := by
  have i := isi_plI k
  have c := c_19 n m p k hk
  have z1 : (1 : Nat) ≤ sizeLine := szl (by decide)
  have z2 : (2 : Nat) ≤ sizeLine := szl (by decide)
  have mt := mul_tup s hs m
  rw [o_27]
  unfold besT
  by_cases h0 : k = 0
  · rw [if_pos h0]
    subst h0
    simp -implicitDefEqProofs [↓evS_for, ↓evE_lc, ↓evE_lcd, ↓evE_lco, ↓evE_dc, evSs, evS, evE, evEs, evP, evPs, evI, evB, evBor, evBand, evO, evOB, evAnd, bindT, wipeS, b_27, i, fl0, in1, in2, in3, g1, g2, g3, c]
  · rw [if_neg h0]
    simp -implicitDefEqProofs [↓evS_for, ↓evE_lc, ↓evE_lcd, ↓evE_lco, ↓evE_dc, evSs, evS, evE, evEs, evP, evPs, evI, evB, evBor, evBand, evO, evOB, evAnd, bindT, wipeS, b_27, i, fl0, in1, in2, in3, g1, g2, g3, c, h0, z1, z2, mt]
theorem c_24 (n : Nat) (m : Mu) (p : Int) (hp : Pr p) (s : Nat) (hs : s ≤ 90) (a b : LT) (ha : NbOk a) (hb : NbOk b) (hl : a.length * b.length ≤ 8000) (hlb : b.length ≤ 500) : callN G (n + 7) 24 [plD p s a, plD p s b] m = .ok (.own (plC p s (mulT p a b))) m := by
  have c27 := c_27 (n + 5) m p s a b
  have c25 := c_25 n m p hp s hs a b ha hb hl hlb
  generalize mulT p a b = o at *
  rw [o_24]
  simp -implicitDefEqProofs [↓evS_for, ↓evE_lc, ↓evE_lcd, ↓evE_lco, ↓evE_dc, evSs, evS, evE, evEs, evP, evPs, evI, evB, evBor, evBand, evO, evOB, evAnd, bindT, wipeS, b_24, c27, fl0, in1, in2, in3, g1, g2, g3, c25]
theorem c_28 (n : Nat) (m : Mu) (p : Int) (hp : Pr p) (s : Nat) (hs : s ≤ 90) (a : LT) (ha : a.length ≤ 500) (k : Int) (hk : 0 ≤ k ∧ k < p) : callN G (n + 7) 28 [plD p s a, .int k] m = .ok (.own (plC p s (subT p s a k))) m := by
  have c27 := c_27i (n + 3) m p s hs a k hk
  have c29 := c_29 n m p hp s hs a (besT s k) (by unfold besT; split <;> simp <;> omega) (-1) (by decide)
  unfold subT
  generalize ordG p (cobG a (besT s k) (-1)) = o at *
  rw [o_28]
  simp -implicitDefEqProofs [↓evS_for, ↓evE_lc, ↓evE_lcd, ↓evE_lco, ↓evE_dc, evSs, evS, evE, evEs, evP, evPs, evI, evB, evBor, evBand, evO, evOB, evAnd, bindT, wipeS, b_28, c27, fl0, in1, in2, in3, g1, g2, g3, c29]
/-- the class called, as an expression does it -/
theorem c_new (n : Nat) (m : Mu) (p : Int) (hp : Pr p) (s : Nat) (hs : s ≤ 90) (t : LT) (ht : TsOk p s t) : ((callN G (n + 4) 20 [.ref m.length, .int p, .int (s : Nat), .tup (t.map tmD)] (m ++ [.ins "Poly" [] []])).bind fun r m2 => newR m r m2) = .ok (.own (plC p s (ordG p t))) m := by
  rw [c_20 n m p hp s hs t ht]
  exact new_pl m p s _
theorem zer_ok (s : Nat) : (zer s).length = s ∧ ∀ k ∈ zer s, k = 0 := ⟨by simp [zer], fun k hk => by simp [zer] at hk; exact hk.2⟩
theorem ts_one {p : Int} (hp : Pr p) (s : Nat) : TsOk p s [(zer s, 1)] := by
  have hq := hp.pos
  refine ⟨fun q hq2 => ?_, by simp, by simp⟩
  rw [List.mem_singleton] at hq2
  subst hq2
  exact ⟨(zer_ok s).1, fun k hk => by have := (zer_ok s).2 k hk; omega, by show (0 : Int) < 1; decide, by show (1 : Int) < p; omega⟩
theorem uni_ok {s i : Nat} (hi : i < s) (k : Int) : (uni s i k).length = s ∧ (∀ x ∈ uni s i k, x = 0 ∨ x = k) ∧ (uni s i k)[i]? = some k := by
  have hz := (zer_ok s).1
  unfold uni
  refine ⟨by simp [hz]; omega, fun x hx => ?_, ?_⟩
  · rcases List.mem_append.mp hx with hx | hx
    · rcases List.mem_append.mp hx with hx | hx
      · exact .inl ((zer_ok s).2 x (List.mem_of_mem_take hx))
      · exact .inr (by simpa using hx)
    · exact .inl ((zer_ok s).2 x (List.mem_of_mem_drop hx))
  · have ht : ((zer s).take i).length = i := by rw [List.length_take, hz]; omega
    rw [List.append_assoc, List.getElem?_append_right (by omega), ht]
    simp
theorem ts_two {p : Int} (hp : Pr p) {s i : Nat} (hi : i < s) : TsOk p s [(zer s, 1), (uni s i (p - 1), p - 1)] := by
  have hq := hp.pos
  obtain ⟨u1, u2, u3⟩ := uni_ok hi (p - 1)
  refine ⟨fun q hq2 => ?_, ?_, by simp⟩
  · rcases List.mem_cons.mp hq2 with rfl | hq2
    · exact (ts_one hp s).1 _ (by simp)
    · rw [List.mem_singleton] at hq2
      subst hq2
      exact ⟨u1, fun k hk => by have := u2 k hk; omega, by show 0 < p - 1; omega, by show p - 1 < p; omega⟩
  · simp only [List.map_cons, List.map_nil, List.nodup_cons, List.mem_singleton, List.not_mem_nil, not_false_eq_true, List.nodup_nil, and_true]
    intro e
    have h0 : (zer s)[i]? = some (p - 1) := by rw [e]; exact u3
    have := (zer_ok s).2 _ (List.mem_of_getElem? h0)
    omega
theorem ts_uni {p : Int} (hp : Pr p) {s i : Nat} (hi : i < s) : TsOk p s [(uni s i 1, 1)] := by
  have hq := hp.pos
  obtain ⟨u1, u2, u3⟩ := uni_ok hi 1
  refine ⟨fun q hq2 => ?_, by simp, by simp⟩
  rw [List.mem_singleton] at hq2
  subst hq2
  exact ⟨u1, fun k hk => by have := u2 k hk; omega, by show (0 : Int) < 1; decide, by show (1 : Int) < p; omega⟩
theorem c_18 (n : Nat) (m : Mu) (p : Int) (hp : Pr p) (s : Nat) (hs : s ≤ 90) : callN G (n + 5) 18 [.cl "Poly", .int p, .int (s : Nat), .int 1] m = .ok (.own (plC p s (ordG p [(zer s, 1)]))) m := by
  have hq := hp.pos
  have c5 := c_5 (n + 2) p m hp
  have c8 := c_8 (n + 2) (s : Int) m (by omega)
  have c19 := c_19 (n + 2) m p 1 (by omega)
  have mt := mul_tup s hs m
  have cn := c_new n m p hp s hs _ (ts_one hp s)
  have z1 : (1 : Nat) ≤ sizeLine := szl (by decide)
  have z2 : (2 : Nat) ≤ sizeLine := szl (by decide)
  simp only [List.map_cons, List.map_nil] at cn
  generalize ordG p [(zer s, 1)] = o at *
  rw [o_18]
  simp -implicitDefEqProofs [↓evS_for, ↓evE_lc, ↓evE_lcd, ↓evE_lco, ↓evE_dc, evSs, evS, evE, evEs, evP, evPs, evI, evB, evBor, evBand, evO, evOB, evAnd, bindT, wipeS, b_18, c5, c8, c19, mt, z1, z2, cn]
/-! ### the keys' lengths, the numbers -/
def Kl (s : Nat) (f : LT) : Prop := ∀ q ∈ f, q.1.length = s
theorem kl_ad {s : Nat} {e : List Int} {v : Int} {f : LT} (h : Kl s f) (he : e.length = s) : Kl s (adG e v f) := by
  unfold adG
  split
  · intro q hq
    obtain ⟨r, hr, rfl⟩ := List.mem_map.mp hq
    have := h r hr
    split <;> exact this
  · intro q hq
    rcases List.mem_append.mp hq with hq | hq
    · exact h q hq
    · rw [List.mem_singleton] at hq
      rw [hq]
      exact he
theorem kl_fold {s : Nat} {α : Type} {g : LT → α → LT} (hg : ∀ f x, Kl s f → Kl s (g f x)) : ∀ (xs : List α) (f : LT), Kl s f → Kl s (xs.foldl g f)
  | [], _, h => h
  | x :: xs, f, h => kl_fold hg xs _ (hg f x h)
theorem kl_foldm {s : Nat} {α : Type} {g : LT → α → LT} : ∀ (xs : List α) (f : LT), (∀ f x, x ∈ xs → Kl s f → Kl s (g f x)) → Kl s f → Kl s (xs.foldl g f)
  | [], _, _, h => h
  | x :: xs, f, hg, h => kl_foldm xs _ (fun f y hy => hg f y (by simp [hy])) (hg f x (by simp) h)
theorem kl_mul {s : Nat} {p : Int} {a b : LT} (ha : Kl s a) (hb : Kl s b) : Kl s (mulG p a b) := by
  unfold mulG
  refine kl_foldm a _ (fun f l hl h => kl_foldm b _ (fun g r hr h => kl_ad h ?_) h) fun q hq => by simp at hq
  unfold cmb
  rw [List.length_map, List.length_zip, ha l hl, hb r hr, Nat.min_self]
theorem kl_cob {s : Nat} {a b : LT} {sc : Int} (ha : Kl s a) (hb : Kl s b) : Kl s (cobG a b sc) := by
  unfold cobG
  refine kl_foldm b _ (fun f q hq h => kl_ad h (hb q hq)) ?_
  exact kl_foldm a _ (fun f q hq h => kl_ad h (ha q hq)) fun q hq => by simp at hq
theorem mem_insT {x y : List Int × Int} : ∀ {L : LT}, y ∈ insT x L → y = x ∨ y ∈ L
  | [], h => by simpa [insT] using h
  | z :: L, h => by
    unfold insT at h
    split at h
    · simpa using h
    · rcases List.mem_cons.mp h with rfl | h
      · exact .inr (by simp)
      · exact (mem_insT h).imp id fun q => by simp [q]
theorem mem_isrt {y : List Int × Int} : ∀ {L : LT}, y ∈ isrtT L → y ∈ L
  | [], h => h
  | x :: L, h => by
    rcases mem_insT (show y ∈ insT x (isrtT L) from h) with rfl | h
    · simp
    · exact List.mem_cons_of_mem _ (mem_isrt h)
theorem ord_ok {s : Nat} (hs : s ≤ 90) {p : Int} (hp : Pr p) {f : LT} (h : Kl s f) : Kl s (ordG p f) ∧ NbOk (ordG p f) ∧ (ordG p f).length ≤ f.length := by
  have hq := hp.pos
  have key : ∀ q ∈ ordG p f, q.1.length = s ∧ 0 ≤ q.2 ∧ q.2 < p := fun q hq2 => by
    obtain ⟨h1, _⟩ := List.mem_filter.mp hq2
    obtain ⟨r, hr, rfl⟩ := List.mem_map.mp (mem_isrt h1)
    exact ⟨h r hr, Int.emod_nonneg _ (by omega), Int.emod_lt_of_pos _ (by omega)⟩
  refine ⟨fun q hq2 => (key q hq2).1, fun q hq2 => ?_, ?_⟩
  · have := key q hq2
    omega
  · unfold ordG
    refine Nat.le_trans (List.length_filter_le _ _) ?_
    rw [isrtT_len, List.length_map]
    exact Nat.le_refl _
end K04
end

section
set_option Elab.async false
set_option linter.all false
set_option maxRecDepth 100000
set_option maxHeartbeats 4000000
namespace K04
open PySem PySem.Spec PyProof.Rows Dp Rm
theorem c_17 (n : Nat) (m : Mu) (P : Nat) (hP : Pr P) (s : Nat) (hs : s ≤ 90) : callN G (n + 3) 17 [.int (P : Nat), .int (s : Nat)] m = .ok (.val (.int (P ^ s : Nat))) m := by
  have hq := hP.pos
  have c5 := c_5 n (P : Int) m hP
  have c8 := c_8 n (s : Int) m (by omega)
  have c9 := c_9 (n + 1) (P : Int) (by omega) s (by omega) m
  rw [powI_nat] at c9
  generalize P ^ s = N at *
  rw [o_17]
  simp -implicitDefEqProofs [↓evS_for, ↓evE_lc, ↓evE_lcd, ↓evE_lco, ↓evE_dc, evSs, evS, evE, evEs, evP, evPs, evI, evB, evBor, evBand, evO, evOB, evAnd, bindT, wipeS, b_17, c5, c8, c9]
theorem c_16 (n : Nat) (m : Mu) (P : Nat) (hP : Pr P) (s : Nat) (hs : s ≤ 90) (hN : P ^ s ≤ 20000) : callN G (n + 4) 16 [.int (P : Nat), .int (s : Nat)] m = .ok (.val (.int (P ^ s : Nat))) m := by
  have c := c_17 n m P hP s hs
  generalize P ^ s = N at *
  have h : ¬ ((20000 : Int) < (N : Int)) := by omega
  rw [o_16]
  simp -implicitDefEqProofs [↓evS_for, ↓evE_lc, ↓evE_lcd, ↓evE_lco, ↓evE_dc, evSs, evS, evE, evEs, evP, evPs, evI, evB, evBor, evBand, evO, evOB, evAnd, bindT, wipeS, b_16, c, h]
theorem c_16x (n : Nat) (m : Mu) (P : Nat) (hP : Pr P) (s : Nat) (hs : s ≤ 90) (hN : 20000 < P ^ s) : callN G (n + 4) 16 [.int (P : Nat), .int (s : Nat)] m = .ex (eTM 20000) m := by
  have c := c_17 n m P hP s hs
  generalize P ^ s = N at *
  have h : (20000 : Int) < (N : Int) := by omega
  rw [o_16]
  simp -implicitDefEqProofs [↓evS_for, ↓evE_lc, ↓evE_lcd, ↓evE_lco, ↓evE_dc, evSs, evS, evE, evEs, evP, evPs, evI, evB, evBor, evBand, evO, evOB, evAnd, bindT, wipeS, b_16, c, h, lx3]
/-! ### fewest_poly -/
theorem sIx_nat (n d k : Nat) : HT.sIx n d (some (k : Int)) = min k n := by
  unfold HT.sIx
  simp
  omega
theorem sl_to (l : List Int) (i : Nat) (m : Mu) : opSl (pt l) none (some (i : Int)) m = .ok (.val (pt (l.take i))) m := by
  show R.ok (SV.val (.tup (Dp.cutD (l.map .int) none (some (i : Int))))) m = _
  have e : Dp.cutD (l.map D.int) none (some (i : Int)) = (l.take i).map .int := by
    unfold Dp.cutD
    rw [sIx_nat]
    show ((l.map D.int).drop 0).take (min i (l.map D.int).length - 0) = _
    rw [List.drop_zero, Nat.sub_zero, List.length_map, ← List.map_take]
    congr 1
    by_cases h : i ≤ l.length
    · rw [Nat.min_eq_left h]
    · rw [Nat.min_eq_right (by omega), List.take_of_length_le (Nat.le_refl _), List.take_of_length_le (by omega)]
  rw [e]
theorem sl_from (l : List Int) (i : Nat) (m : Mu) : opSl (pt l) (some ((i : Int) + 1)) none m = .ok (.val (pt (l.drop (i + 1)))) m := by
  show R.ok (SV.val (.tup (Dp.cutD (l.map .int) (some ((i : Int) + 1)) none))) m = _
  have e : Dp.cutD (l.map D.int) (some ((i : Int) + 1)) none = (l.drop (i + 1)).map .int := by
    have ei : (i : Int) + 1 = ((i + 1 : Nat) : Int) := by omega
    rw [ei]
    unfold Dp.cutD
    rw [sIx_nat]
    have e2 : HT.sIx (l.map D.int).length (l.map D.int).length none = (l.map D.int).length := rfl
    rw [e2, List.length_map]
    by_cases h : i + 1 ≤ l.length
    · rw [Nat.min_eq_left h, ← List.map_drop, List.take_of_length_le (by simp)]
    · rw [Nat.min_eq_right (by omega), Nat.sub_self, List.take_zero, List.drop_eq_nil_of_le (by omega)]
      rfl
  rw [e]
theorem pt_add (a b : List Int) (m : Mu) (h : a.length + b.length ≤ 9000) : opB .add (pt a) (pt b) m = .ok (.val (pt (a ++ b))) m := by
  have t := tadd (a.map .int) (b.map .int) m (by simpa using h)
  rw [← List.map_append] at t
  exact t
theorem pt_add1 (a : List Int) (k : Int) (m : Mu) (h : a.length ≤ 8000) : opB .add (pt a) (.tup [.int k]) m = .ok (.val (pt (a ++ [k]))) m := pt_add a [k] m (by simp; omega)
theorem lk24 : List.lookup ("Poly" : Str) [(("Poly" : Str), 24)] = some 24 := rfl
theorem lk28 : List.lookup ("Poly" : Str) [(("Poly" : Str), 28)] = some 28 := rfl
theorem opd1 (ns : List Str) (ds : List D) : opdOk ("Poly" : Str) (.ins "Poly" ns ds) = true := rfl
theorem opd2 (i : Int) : opdOk ("Poly" : Str) (.int i) = true := rfl
theorem kl_of {p : Int} {s : Nat} {t : LT} (h : TsOk p s t) : Kl s t := fun q hq => (h.1 q hq).1
section
variable {P s : Nat} (hP : Pr P) (hs : s ≤ 90)
include hP hs
theorem fp1_ok : ∀ k, k ≤ s → Kl s (fp1 P s k) ∧ NbOk (fp1 P s k)
  | 0, _ => ⟨(ord_ok hs hP (kl_of (ts_one hP s))).1, (ord_ok hs hP (kl_of (ts_one hP s))).2.1⟩
  | k + 1, h => by
    obtain ⟨h1, _⟩ := fp1_ok k (by omega)
    have o := ord_ok hs hP (kl_mul (p := P) h1 (ord_ok hs hP (kl_of (ts_two hP (show k < s by omega)))).1)
    exact ⟨o.1, o.2.1⟩
theorem sub_ok' {wh : Nat} (hw : wh < s) (k : Int) : Kl s (subT P s (ordG P [(uni s wh 1, 1)]) k) ∧ NbOk (subT P s (ordG P [(uni s wh 1, 1)]) k) ∧ (subT P s (ordG P [(uni s wh 1, 1)]) k).length ≤ 2 ∧ (ordG (P : Int) [(uni s wh 1, 1)]).length ≤ 1 := by
  have o1 := ord_ok hs hP (kl_of (ts_uni hP hw))
  have kb : Kl s (besT s k) := fun q hq => by
    unfold besT at hq
    split at hq
    · simp at hq
    · rw [List.mem_singleton] at hq
      rw [hq]
      exact (zer_ok s).1
  have o2 := ord_ok hs hP (kl_cob (sc := -1) o1.1 kb)
  have lenf : ∀ (xs : LT) (g : LT → List Int × Int → LT) (f : LT), (∀ f x, (g f x).length ≤ f.length + 1) → (xs.foldl g f).length ≤ f.length + xs.length := by
    intro xs g
    induction xs with
    | nil => exact fun f _ => Nat.le_refl _
    | cons x xs ih =>
      intro f hg
      have := ih (g f x) hg
      have := hg f x
      rw [List.foldl_cons, List.length_cons]
      omega
  have l1 : (ordG (P : Int) [(uni s wh 1, 1)]).length ≤ 1 := o1.2.2
  have l2 : (cobG (ordG (P : Int) [(uni s wh 1, 1)]) (besT s k) (-1)).length ≤ 2 := by
    unfold cobG
    have a1 := lenf (besT s k) (fun f q => adG q.1 (coG f q.1 + -1 * q.2) f) ((ordG (P : Int) [(uni s wh 1, 1)]).foldl (fun f q => adG q.1 q.2 f) []) fun f x => adG_len _ _ _
    have a2 := lenf (ordG (P : Int) [(uni s wh 1, 1)]) (fun f q => adG q.1 q.2 f) [] fun f x => adG_len _ _ _
    have a3 : (besT s k).length ≤ 1 := by unfold besT; split <;> simp
    simp only [List.length_nil] at a2
    omega
  exact ⟨o2.1, o2.2.1, Nat.le_trans o2.2.2 l2, l1⟩
theorem fp2_ok {wh : Nat} (hw : wh ≤ s) : ∀ k, (k = 0 ∨ wh < s) → Kl s (fp2 P s wh k) ∧ NbOk (fp2 P s wh k)
  | 0, _ => fp1_ok hP hs wh hw
  | k + 1, h => by
    have hlt : wh < s := by omega
    obtain ⟨h1, _⟩ := fp2_ok hw k (.inr hlt)
    have o := ord_ok hs hP (kl_mul (p := P) h1 (sub_ok' hP hs hlt k).1)
    exact ⟨o.1, o.2.1⟩
theorem t_15a (n : Nat) (m : Mu) (d x7 x8 : SV) (t : LT) (ht : NbOk t) (hl : t.length ≤ 200) (k : Nat) (hk : k < s) :
    ∃ s1, bodyF (callN G (n + 7)) (.nm 5) l_15_0 (.int (k : Nat)) [some (.val (.int (P : Nat))), some (.val (.int (s : Nat))), some d, some (.val (plD P s t)), some (.val (pt (zer s))), none, none, some x7, some x8, none, none] m = .nx s1 m ∧
      wipeS s1 [5, 9] = [some (.val (.int (P : Nat))), some (.val (.int (s : Nat))), some d, some (.val (plD P s (mulT P t (ordG P [(zer s, 1), (uni s k ((P : Int) - 1), (P : Int) - 1)])))), some (.val (pt (zer s))), none, none, some x7, some x8, none, none] := by
  have hz := (zer_ok s).1
  have s1 := sl_to (zer s) k m
  have s2 := sl_from (zer s) k m
  have a1 := pt_add1 ((zer s).take k) ((P : Int) - 1) m (by rw [List.length_take]; omega)
  have a2 := pt_add ((zer s).take k ++ [(P : Int) - 1]) ((zer s).drop (k + 1)) m (by simp; omega)
  have o := ord_ok hs hP (kl_of (ts_two hP hk))
  have cn := c_new (n + 3) m P hP s hs _ (ts_two hP hk)
  have c24 := c_24 n m P hP s hs t (ordG P [(zer s, 1), (uni s k ((P : Int) - 1), (P : Int) - 1)]) ht o.2.1 (by
    have h2 : (ordG (P : Int) [(zer s, 1), (uni s k ((P : Int) - 1), (P : Int) - 1)]).length ≤ 2 := o.2.2
    have := Nat.mul_le_mul hl h2
    omega) (by have h2 : (ordG (P : Int) [(zer s, 1), (uni s k ((P : Int) - 1), (P : Int) - 1)]).length ≤ 2 := o.2.2; omega)
  have hu : uni s k ((P : Int) - 1) = (zer s).take k ++ [(P : Int) - 1] ++ (zer s).drop (k + 1) := rfl
  rw [← hu] at a2
  generalize hoo : ordG (P : Int) [(zer s, 1), (uni s k ((P : Int) - 1), (P : Int) - 1)] = o1 at *
  simp only [List.map_cons, List.map_nil] at cn
  generalize uni s k ((P : Int) - 1) = u at *
  generalize mulT (P : Int) t o1 = r at *
  generalize (zer s).take k = zt at *
  generalize zt ++ [(P : Int) - 1] = zt2 at *
  generalize (zer s).drop (k + 1) = zd at *
  have z1 : (1 : Nat) ≤ sizeLine := szl (by decide)
  have z2 : (2 : Nat) ≤ sizeLine := szl (by decide)
  refine ⟨[some (.val (.int (P : Nat))), some (.val (.int (s : Nat))), some d, some (.val (plD P s r)), some (.val (pt (zer s))), some (.val (.int (k : Nat))), none, some x7, some x8, some (.val (pt u)), none], ?_, rfl⟩
  simp -implicitDefEqProofs [↓evS_for, ↓evE_lc, ↓evE_lcd, ↓evE_lco, ↓evE_dc, evSs, evS, evE, evEs, evP, evPs, evI, evB, evBor, evBand, evO, evOB, evAnd, bindT, wipeS, bodyF, l_15_0, s1, s2, a1, a2, z1, z2, cn, lk24, opd1, c24]
theorem t_15b (n : Nat) (m : Mu) (d x8 : SV) (t : LT) (ht : NbOk t) (hl : t.length ≤ 200) (wh k : Nat) (hw : wh < s) (hk : k < P) (y5 : Option SV) :
    ∃ s1, bodyF (callN G (n + 7)) (.nm 6) l_15_1 (.int (k : Nat)) [some (.val (.int (P : Nat))), some (.val (.int (s : Nat))), some d, some (.val (plD P s t)), some (.val (pt (zer s))), y5, none, some (.val (.int (wh : Nat))), some x8, none, none] m = .nx s1 m ∧
      wipeS s1 [6, 10] = [some (.val (.int (P : Nat))), some (.val (.int (s : Nat))), some d, some (.val (plD P s (mulT P t (subT P s (ordG P [(uni s wh 1, 1)]) k)))), some (.val (pt (zer s))), y5, none, some (.val (.int (wh : Nat))), some x8, none, none] := by
  have hz := (zer_ok s).1
  have s1 := sl_to (zer s) wh m
  have s2 := sl_from (zer s) wh m
  have a1 := pt_add1 ((zer s).take wh) 1 m (by rw [List.length_take]; omega)
  have a2 := pt_add ((zer s).take wh ++ [1]) ((zer s).drop (wh + 1)) m (by simp; omega)
  obtain ⟨k1, k2, k3, k4⟩ := sub_ok' hP hs hw (k : Int)
  have cn := c_new (n + 3) m P hP s hs _ (ts_uni hP hw)
  have c28 := c_28 n m P hP s hs (ordG P [(uni s wh 1, 1)]) (by omega) (k : Int) (by omega)
  have c24 := c_24 n m P hP s hs t (subT P s (ordG P [(uni s wh 1, 1)]) k) ht k2 (by
    have := Nat.mul_le_mul hl k3
    omega) (by omega)
  have hu : uni s wh 1 = (zer s).take wh ++ [1] ++ (zer s).drop (wh + 1) := rfl
  rw [← hu] at a2
  simp only [List.map_cons, List.map_nil] at cn
  generalize subT (P : Int) s (ordG (P : Int) [(uni s wh 1, 1)]) k = sb at *
  generalize ordG (P : Int) [(uni s wh 1, 1)] = o1 at *
  generalize uni s wh 1 = u at *
  generalize mulT (P : Int) t sb = r at *
  generalize (zer s).take wh = zt at *
  generalize zt ++ [(1 : Int)] = zt2 at *
  generalize (zer s).drop (wh + 1) = zd at *
  have z1 : (1 : Nat) ≤ sizeLine := szl (by decide)
  have z2 : (2 : Nat) ≤ sizeLine := szl (by decide)
  refine ⟨[some (.val (.int (P : Nat))), some (.val (.int (s : Nat))), some d, some (.val (plD P s r)), some (.val (pt (zer s))), y5, some (.val (.int (k : Nat))), some (.val (.int (wh : Nat))), some x8, none, some (.val (plD P s o1))], ?_, rfl⟩
  simp -implicitDefEqProofs [↓evS_for, ↓evE_lc, ↓evE_lcd, ↓evE_lco, ↓evE_dc, evSs, evS, evE, evEs, evP, evPs, evI, evB, evBor, evBand, evO, evOB, evAnd, bindT, wipeS, bodyF, l_15_1, s1, s2, a1, a2, z1, z2, cn, lk28, opd2, c28, lk24, opd1, c24]
end
end K04
end

section
set_option Elab.async false
set_option linter.all false
set_option maxRecDepth 100000
set_option maxHeartbeats 4000000
namespace K04
open PySem PySem.Spec PyProof.Rows Dp Rm
theorem c_15 (n : Nat) (m : Mu) (P : Nat) (hP : Pr P) (s : Nat) (hs : s ≤ 90) (d : Nat) (hd : d ≤ s * (P - 1)) (hC : chkL P s d = true) (hN : P ^ s ≤ 20000) : callN G (n + 8) 15 [.int (P : Nat), .int (s : Nat), .int (d : Nat)] m = .ok (.val (plD P s (fpT P s d))) m := by
  have hq := hP.pos
  have hq1 : ((P - 1 : Nat) : Int) = (P : Int) - 1 := by omega
  have c5 := c_5 (n + 5) (P : Int) m hP
  have c8 := c_8 (n + 5) (s : Int) m (by omega)
  have c7 := c_7 (n + 5) (P : Int) hP (s : Int) (d : Int) ⟨by omega, by rw [← hq1, ← Int.natCast_mul]; omega⟩ m
  have c16 := c_16 (n + 3) m P hP s hs hN
  have c18 := c_18 (n + 2) m (P : Int) hP s hs
  have mt := mul_tup s hs m
  have e1 : (d : Int) / ((P : Int) - 1) = ((d / (P - 1) : Nat) : Int) := by rw [← hq1, ← Int.natCast_ediv]
  have e2 : (d : Int) % ((P : Int) - 1) = ((d % (P - 1) : Nat) : Int) := by rw [← hq1, ← Int.natCast_emod]
  rw [e1, e2] at c7
  have hw : d / (P - 1) ≤ s := Nat.div_le_of_le_mul (by rw [Nat.mul_comm]; exact hd)
  have hr : d % (P - 1) < P - 1 := Nat.mod_lt _ (by omega)
  have hlt : d % (P - 1) = 0 ∨ d / (P - 1) < s := by
    by_cases h0 : d % (P - 1) = 0
    · exact .inl h0
    · refine .inr (Nat.lt_of_le_of_ne hw fun z => h0 ?_)
      have := Nat.div_add_mod d (P - 1)
      rw [z, Nat.mul_comm] at this
      omega
  have hfp : fpT (P : Int) s d = fp2 P s (d / (P - 1)) (d % (P - 1)) := by unfold fpT; rw [Int.toNat_natCast]
  unfold chkL at hC
  rw [Bool.and_eq_true, List.all_eq_true, List.all_eq_true] at hC
  obtain ⟨hC1, hC2⟩ := hC
  rw [hfp]
  generalize d / (P - 1) = wh at *
  generalize d % (P - 1) = re at *
  obtain ⟨k1, ⟨h1, h1b⟩, key1⟩ := forL_ex (fg := [5, 9]) (F := bodyF (callN G (n + 7)) (.nm 5) l_15_0) (fun i : Nat => D.int (i : Nat)) (fun k : Nat => [some (.val (.int (P : Nat))), some (.val (.int (s : Nat))), some (.val (.int (d : Nat))), some (.val (plD P s (fp1 P s k))), some (.val (pt (zer s))), none, none, some (.val (.int (wh : Nat))), some (.val (.int (re : Nat))), none, none]) (fun _ => m)
    (fun xs k => xs = List.range' k (wh - k) ∧ k ≤ wh)
    (fun x xs k hk => by
      obtain ⟨g1, g2⟩ := hk
      obtain ⟨r, hr2⟩ : ∃ r, wh - k = r + 1 := by
        cases hh : wh - k with
        | zero => rw [hh] at g1; cases g1
        | succ r => exact ⟨r, rfl⟩
      rw [hr2, List.range'_succ] at g1
      injection g1 with g3 g4
      subst g3
      have o := fp1_ok hP hs x (by omega)
      have hl := of_decide_eq_true (hC1 x (List.mem_range.mpr (by omega)))
      obtain ⟨s1, q1, q2⟩ := t_15a hP hs n m (.val (.int (d : Nat))) (.val (.int (wh : Nat))) (.val (.int (re : Nat))) (fp1 P s x) o.2 hl x (by omega)
      exact ⟨x + 1, ⟨by rw [g4, show wh - (x + 1) = r by omega], by omega⟩, s1, q1, q2⟩)
    (List.range wh) 0 ⟨by rw [Nat.sub_zero, List.range_eq_range'], Nat.zero_le _⟩
  have hk1 : k1 = wh := by
    have := congrArg List.length h1
    simp at this
    omega
  subst hk1
  obtain ⟨k2, ⟨h2, h2b⟩, key2⟩ := forL_ex (fg := [6, 10]) (F := bodyF (callN G (n + 7)) (.nm 6) l_15_1) (fun i : Nat => D.int (i : Nat)) (fun k : Nat => [some (.val (.int (P : Nat))), some (.val (.int (s : Nat))), some (.val (.int (d : Nat))), some (.val (plD P s (fp2 P s k1 k))), some (.val (pt (zer s))), none, none, some (.val (.int (k1 : Nat))), some (.val (.int (re : Nat))), none, none]) (fun _ => m)
    (fun xs k => xs = List.range' k (re - k) ∧ k ≤ re)
    (fun x xs k hk => by
      obtain ⟨g1, g2⟩ := hk
      obtain ⟨r, hr2⟩ : ∃ r, re - k = r + 1 := by
        cases hh : re - k with
        | zero => rw [hh] at g1; cases g1
        | succ r => exact ⟨r, rfl⟩
      rw [hr2, List.range'_succ] at g1
      injection g1 with g3 g4
      subst g3
      have hws : k1 < s := by omega
      have o := fp2_ok hP hs hw x (.inr hws)
      have hl := of_decide_eq_true (hC2 x (List.mem_range.mpr (by omega)))
      obtain ⟨s1, q1, q2⟩ := t_15b hP hs n m (.val (.int (d : Nat))) (.val (.int (re : Nat))) (fp2 P s k1 x) o.2 hl k1 x hws (by omega) none
      exact ⟨x + 1, ⟨by rw [g4, show re - (x + 1) = r by omega], by omega⟩, s1, q1, q2⟩)
    (List.range re) 0 ⟨by rw [Nat.sub_zero, List.range_eq_range'], Nat.zero_le _⟩
  have hk2 : k2 = re := by
    have := congrArg List.length h2
    simp at this
    omega
  subst hk2
  have r1 := r62_nat (n := k1) (by omega)
  have r2 := r62_nat (n := k2) (by omega)
  have z1 : (1 : Nat) ≤ sizeLine := szl (by decide)
  have e3 : fp2 (P : Int) s k1 0 = fp1 P s k1 := rfl
  have e4 : fp1 (P : Int) s 0 = ordG P [(zer s, 1)] := rfl
  rw [e3] at key2
  rw [e4] at key1
  generalize fp2 (P : Int) s k1 k2 = t2 at *
  generalize fp1 (P : Int) s k1 = t1 at *
  generalize ordG (P : Int) [(zer s, 1)] = t0 at *
  generalize P ^ s = N at *
  generalize zer s = z at *
  rw [o_15]
  simp -implicitDefEqProofs [↓evS_for, ↓evE_lc, ↓evE_lcd, ↓evE_lco, ↓evE_dc, evSs, evS, evE, evEs, evP, evPs, evI, evB, evBor, evBand, evO, evOB, evAnd, bindT, wipeS, b_15, c5, c8, c7, c16, c18, mt, z1, r1, key1, r2, key2]
/-! ### refusals -/
theorem c_4p (n : Nat) (m : Mu) (d : D) (s : D) : callN G (n + 3) 4 [.int 6, s, d] m = .ex (eBP (.int 6)) m := by
  have c5 := c_5x n m
  rw [o_4]
  simp -implicitDefEqProofs [↓evS_for, ↓evE_lc, ↓evE_lcd, ↓evE_lco, ↓evE_dc, evSs, evS, evE, evEs, evP, evPs, evI, evB, evBor, evBand, evO, evOB, evAnd, bindT, wipeS, b_4, c5]
theorem c_4s (n : Nat) (m : Mu) (P : Int) (hP : Pr P) (d : D) : callN G (n + 3) 4 [.int P, .int 91, d] m = .ex (eBN (.int 91)) m := by
  have c5 := c_5 n P m hP
  have c8 := c_8x n m
  rw [o_4]
  simp -implicitDefEqProofs [↓evS_for, ↓evE_lc, ↓evE_lcd, ↓evE_lco, ↓evE_dc, evSs, evS, evE, evEs, evP, evPs, evI, evB, evBor, evBand, evO, evOB, evAnd, bindT, wipeS, b_4, c5, c8]
theorem c_4d (n : Nat) (m : Mu) (P : Int) (hP : Pr P) (s : Int) (hs : 0 ≤ s ∧ s ≤ 90) (d : D) (hd : Wr P s d) : callN G (n + 3) 4 [.int P, .int s, d] m = .ex (eBN d) m := by
  have c5 := c_5 n P m hP
  have c8 := c_8 n s m hs
  have c7 := c_7x n P hP s d hd m
  rw [o_4]
  simp -implicitDefEqProofs [↓evS_for, ↓evE_lc, ↓evE_lcd, ↓evE_lco, ↓evE_dc, evSs, evS, evE, evEs, evP, evPs, evI, evB, evBor, evBand, evO, evOB, evAnd, bindT, wipeS, b_4, c5, c8, c7]
theorem c_15p (n : Nat) (m : Mu) (d : D) (s : D) : callN G (n + 3) 15 [.int 6, s, d] m = .ex (eBP (.int 6)) m := by
  have c5 := c_5x n m
  rw [o_15]
  simp -implicitDefEqProofs [↓evS_for, ↓evE_lc, ↓evE_lcd, ↓evE_lco, ↓evE_dc, evSs, evS, evE, evEs, evP, evPs, evI, evB, evBor, evBand, evO, evOB, evAnd, bindT, wipeS, b_15, c5]
theorem c_15s (n : Nat) (m : Mu) (P : Int) (hP : Pr P) (d : D) : callN G (n + 3) 15 [.int P, .int 91, d] m = .ex (eBN (.int 91)) m := by
  have c5 := c_5 n P m hP
  have c8 := c_8x n m
  rw [o_15]
  simp -implicitDefEqProofs [↓evS_for, ↓evE_lc, ↓evE_lcd, ↓evE_lco, ↓evE_dc, evSs, evS, evE, evEs, evP, evPs, evI, evB, evBor, evBand, evO, evOB, evAnd, bindT, wipeS, b_15, c5, c8]
theorem c_15d (n : Nat) (m : Mu) (P : Int) (hP : Pr P) (s : Int) (hs : 0 ≤ s ∧ s ≤ 90) (d : D) (hd : Wr P s d) : callN G (n + 3) 15 [.int P, .int s, d] m = .ex (eBN d) m := by
  have c5 := c_5 n P m hP
  have c8 := c_8 n s m hs
  have c7 := c_7x n P hP s d hd m
  rw [o_15]
  simp -implicitDefEqProofs [↓evS_for, ↓evE_lc, ↓evE_lcd, ↓evE_lco, ↓evE_dc, evSs, evS, evE, evEs, evP, evPs, evI, evB, evBor, evBand, evO, evOB, evAnd, bindT, wipeS, b_15, c5, c8, c7]
theorem c_15t (n : Nat) (m : Mu) (d : Int) (hd : 0 ≤ d ∧ d ≤ 3) : callN G (n + 5) 15 [.int 2, .int 15, .int d] m = .ex (eTM 20000) m := by
  have hp : Pr 2 := .inl rfl
  have c5 := c_5 (n + 2) 2 m hp
  have c8 := c_8 (n + 2) 15 m (by decide)
  have c7 := c_7 (n + 2) 2 hp 15 d ⟨hd.1, by omega⟩ m
  have c16 := c_16x n m 2 hp 15 (by decide) (by decide)
  have e : ((2 : Nat) : Int) = 2 := rfl
  have e2 : ((15 : Nat) : Int) = 15 := rfl
  rw [e, e2] at c16
  rw [o_15]
  simp -implicitDefEqProofs [↓evS_for, ↓evE_lc, ↓evE_lcd, ↓evE_lco, ↓evE_dc, evSs, evS, evE, evEs, evP, evPs, evI, evB, evBor, evBand, evO, evOB, evAnd, bindT, wipeS, b_15, c5, c8, c7, c16]
abbrev HS40 : List Hc := [⟨"BadPrime", (some 5), (.asgL 4 [.str "prime", .fld "number"])⟩, ⟨"BadNumber", (some 5), (.asgL 4 [.str "number", .fld "thing"])⟩, ⟨"TooMany", (some 5), (.asgL 4 [.str "many", .fld "limit"])⟩, ⟨"FillingError", (some 5), (.asgL 4 [.str "other", .int 0])⟩]
theorem hd_p (d : D) (a b c e t r : Option SV) (m : Mu) : hdS G (eBP d) HS40 [a, b, c, e, t, r] m = .nx [a, b, c, e, some (.own (.lst [.str "prime", d])), none] m := by rfl
theorem hd_n (d : D) (a b c e t r : Option SV) (m : Mu) : hdS G (eBN d) HS40 [a, b, c, e, t, r] m = .nx [a, b, c, e, some (.own (.lst [.str "number", d])), none] m := by rfl
theorem hd_t (i : Int) (a b c e t r : Option SV) (m : Mu) : hdS G (eTM i) HS40 [a, b, c, e, t, r] m = .nx [a, b, c, e, some (.own (.lst [.str "many", .int i])), none] m := by rfl
end K04
end

section
set_option Elab.async false
set_option linter.all false
set_option maxRecDepth 100000
set_option maxHeartbeats 0
namespace Rm
theorem chk0 : ((List.range 3).all fun d => chkL 2 14 d) = true := by decide +kernel
end Rm
end

section
set_option Elab.async false
set_option linter.all false
set_option maxRecDepth 100000
set_option maxHeartbeats 0
namespace Rm
def cF (P s d : Nat) : Bool := chkL P s d && chk P s d
def cG (P s : Nat) : Bool := (List.range (s * (P - 1) + 1)).all (cF P s)
theorem all_s {f : Nat → Bool} (n : Nat) (h : (List.range n).all f = true) (h1 : f n = true) : (List.range (n + 1)).all f = true := by
  rw [List.range_succ, List.all_append, h]; simp [h1]
theorem all_0 {f : Nat → Bool} : (List.range 0).all f = true := rfl
end Rm
end

section
set_option Elab.async false
set_option linter.all false
set_option maxRecDepth 100000
set_option maxHeartbeats 0
namespace Rm
theorem e2_0_0 : cF 2 0 0 = true := by decide +kernel
theorem g2_0 : cG 2 0 = true := (show (List.range 1).all (cF 2 0) = true from (all_s 0 all_0 e2_0_0))
theorem e2_1_0 : cF 2 1 0 = true := by decide +kernel
theorem e2_1_1 : cF 2 1 1 = true := by decide +kernel
theorem g2_1 : cG 2 1 = true := (show (List.range 2).all (cF 2 1) = true from (all_s 1 (all_s 0 all_0 e2_1_0) e2_1_1))
theorem e2_2_0 : cF 2 2 0 = true := by decide +kernel
theorem e2_2_1 : cF 2 2 1 = true := by decide +kernel
theorem e2_2_2 : cF 2 2 2 = true := by decide +kernel
theorem g2_2 : cG 2 2 = true := (show (List.range 3).all (cF 2 2) = true from (all_s 2 (all_s 1 (all_s 0 all_0 e2_2_0) e2_2_1) e2_2_2))
theorem e2_3_0 : cF 2 3 0 = true := by decide +kernel
theorem e2_3_1 : cF 2 3 1 = true := by decide +kernel
theorem e2_3_2 : cF 2 3 2 = true := by decide +kernel
theorem e2_3_3 : cF 2 3 3 = true := by decide +kernel
theorem g2_3 : cG 2 3 = true := (show (List.range 4).all (cF 2 3) = true from (all_s 3 (all_s 2 (all_s 1 (all_s 0 all_0 e2_3_0) e2_3_1) e2_3_2) e2_3_3))
theorem e2_4_0 : cF 2 4 0 = true := by decide +kernel
theorem e2_4_1 : cF 2 4 1 = true := by decide +kernel
theorem e2_4_2 : cF 2 4 2 = true := by decide +kernel
theorem e2_4_3 : cF 2 4 3 = true := by decide +kernel
theorem e2_4_4 : cF 2 4 4 = true := by decide +kernel
theorem g2_4 : cG 2 4 = true := (show (List.range 5).all (cF 2 4) = true from (all_s 4 (all_s 3 (all_s 2 (all_s 1 (all_s 0 all_0 e2_4_0) e2_4_1) e2_4_2) e2_4_3) e2_4_4))
theorem e2_5_0 : cF 2 5 0 = true := by decide +kernel
theorem e2_5_1 : cF 2 5 1 = true := by decide +kernel
theorem e2_5_2 : cF 2 5 2 = true := by decide +kernel
theorem e2_5_3 : cF 2 5 3 = true := by decide +kernel
theorem e2_5_4 : cF 2 5 4 = true := by decide +kernel
theorem e2_5_5 : cF 2 5 5 = true := by decide +kernel
theorem g2_5 : cG 2 5 = true := (show (List.range 6).all (cF 2 5) = true from (all_s 5 (all_s 4 (all_s 3 (all_s 2 (all_s 1 (all_s 0 all_0 e2_5_0) e2_5_1) e2_5_2) e2_5_3) e2_5_4) e2_5_5))
theorem e2_6_0 : cF 2 6 0 = true := by decide +kernel
theorem e2_6_1 : cF 2 6 1 = true := by decide +kernel
theorem e2_6_2 : cF 2 6 2 = true := by decide +kernel
theorem e2_6_3 : cF 2 6 3 = true := by decide +kernel
theorem e2_6_4 : cF 2 6 4 = true := by decide +kernel
theorem e2_6_5 : cF 2 6 5 = true := by decide +kernel
theorem e2_6_6 : cF 2 6 6 = true := by decide +kernel
theorem g2_6 : cG 2 6 = true := (show (List.range 7).all (cF 2 6) = true from (all_s 6 (all_s 5 (all_s 4 (all_s 3 (all_s 2 (all_s 1 (all_s 0 all_0 e2_6_0) e2_6_1) e2_6_2) e2_6_3) e2_6_4) e2_6_5) e2_6_6))
theorem e2_7_0 : cF 2 7 0 = true := by decide +kernel
theorem e2_7_1 : cF 2 7 1 = true := by decide +kernel
theorem e2_7_2 : cF 2 7 2 = true := by decide +kernel
theorem e2_7_3 : cF 2 7 3 = true := by decide +kernel
theorem e2_7_4 : cF 2 7 4 = true := by decide +kernel
theorem e2_7_5 : cF 2 7 5 = true := by decide +kernel
theorem e2_7_6 : cF 2 7 6 = true := by decide +kernel
theorem e2_7_7 : cF 2 7 7 = true := by decide +kernel
theorem g2_7 : cG 2 7 = true := (show (List.range 8).all (cF 2 7) = true from (all_s 7 (all_s 6 (all_s 5 (all_s 4 (all_s 3 (all_s 2 (all_s 1 (all_s 0 all_0 e2_7_0) e2_7_1) e2_7_2) e2_7_3) e2_7_4) e2_7_5) e2_7_6) e2_7_7))
theorem chk2 : chkA 2 7 = true := (show (List.range 8).all (cG 2) = true from (all_s 7 (all_s 6 (all_s 5 (all_s 4 (all_s 3 (all_s 2 (all_s 1 (all_s 0 all_0 g2_0) g2_1) g2_2) g2_3) g2_4) g2_5) g2_6) g2_7))
end Rm
end

section
set_option Elab.async false
set_option linter.all false
set_option maxRecDepth 100000
set_option maxHeartbeats 0
namespace Rm
theorem e3_0_0 : cF 3 0 0 = true := by decide +kernel
theorem g3_0 : cG 3 0 = true := (show (List.range 1).all (cF 3 0) = true from (all_s 0 all_0 e3_0_0))
theorem e3_1_0 : cF 3 1 0 = true := by decide +kernel
theorem e3_1_1 : cF 3 1 1 = true := by decide +kernel
theorem e3_1_2 : cF 3 1 2 = true := by decide +kernel
theorem g3_1 : cG 3 1 = true := (show (List.range 3).all (cF 3 1) = true from (all_s 2 (all_s 1 (all_s 0 all_0 e3_1_0) e3_1_1) e3_1_2))
theorem e3_2_0 : cF 3 2 0 = true := by decide +kernel
theorem e3_2_1 : cF 3 2 1 = true := by decide +kernel
theorem e3_2_2 : cF 3 2 2 = true := by decide +kernel
theorem e3_2_3 : cF 3 2 3 = true := by decide +kernel
theorem e3_2_4 : cF 3 2 4 = true := by decide +kernel
theorem g3_2 : cG 3 2 = true := (show (List.range 5).all (cF 3 2) = true from (all_s 4 (all_s 3 (all_s 2 (all_s 1 (all_s 0 all_0 e3_2_0) e3_2_1) e3_2_2) e3_2_3) e3_2_4))
theorem e3_3_0 : cF 3 3 0 = true := by decide +kernel
theorem e3_3_1 : cF 3 3 1 = true := by decide +kernel
theorem e3_3_2 : cF 3 3 2 = true := by decide +kernel
theorem e3_3_3 : cF 3 3 3 = true := by decide +kernel
theorem e3_3_4 : cF 3 3 4 = true := by decide +kernel
theorem e3_3_5 : cF 3 3 5 = true := by decide +kernel
theorem e3_3_6 : cF 3 3 6 = true := by decide +kernel
theorem g3_3 : cG 3 3 = true := (show (List.range 7).all (cF 3 3) = true from (all_s 6 (all_s 5 (all_s 4 (all_s 3 (all_s 2 (all_s 1 (all_s 0 all_0 e3_3_0) e3_3_1) e3_3_2) e3_3_3) e3_3_4) e3_3_5) e3_3_6))
theorem e3_4_0 : cF 3 4 0 = true := by decide +kernel
theorem e3_4_1 : cF 3 4 1 = true := by decide +kernel
theorem e3_4_2 : cF 3 4 2 = true := by decide +kernel
theorem e3_4_3 : cF 3 4 3 = true := by decide +kernel
theorem e3_4_4 : cF 3 4 4 = true := by decide +kernel
theorem e3_4_5 : cF 3 4 5 = true := by decide +kernel
theorem e3_4_6 : cF 3 4 6 = true := by decide +kernel
theorem e3_4_7 : cF 3 4 7 = true := by decide +kernel
theorem e3_4_8 : cF 3 4 8 = true := by decide +kernel
theorem g3_4 : cG 3 4 = true := (show (List.range 9).all (cF 3 4) = true from (all_s 8 (all_s 7 (all_s 6 (all_s 5 (all_s 4 (all_s 3 (all_s 2 (all_s 1 (all_s 0 all_0 e3_4_0) e3_4_1) e3_4_2) e3_4_3) e3_4_4) e3_4_5) e3_4_6) e3_4_7) e3_4_8))
theorem chk3 : chkA 3 4 = true := (show (List.range 5).all (cG 3) = true from (all_s 4 (all_s 3 (all_s 2 (all_s 1 (all_s 0 all_0 g3_0) g3_1) g3_2) g3_3) g3_4))
end Rm
end

section
set_option Elab.async false
set_option linter.all false
set_option maxRecDepth 100000
set_option maxHeartbeats 0
namespace Rm
theorem e5_0_0 : cF 5 0 0 = true := by decide +kernel
theorem g5_0 : cG 5 0 = true := (show (List.range 1).all (cF 5 0) = true from (all_s 0 all_0 e5_0_0))
theorem e5_1_0 : cF 5 1 0 = true := by decide +kernel
theorem e5_1_1 : cF 5 1 1 = true := by decide +kernel
theorem e5_1_2 : cF 5 1 2 = true := by decide +kernel
theorem e5_1_3 : cF 5 1 3 = true := by decide +kernel
theorem e5_1_4 : cF 5 1 4 = true := by decide +kernel
theorem g5_1 : cG 5 1 = true := (show (List.range 5).all (cF 5 1) = true from (all_s 4 (all_s 3 (all_s 2 (all_s 1 (all_s 0 all_0 e5_1_0) e5_1_1) e5_1_2) e5_1_3) e5_1_4))
theorem e5_2_0 : cF 5 2 0 = true := by decide +kernel
theorem e5_2_1 : cF 5 2 1 = true := by decide +kernel
theorem e5_2_2 : cF 5 2 2 = true := by decide +kernel
theorem e5_2_3 : cF 5 2 3 = true := by decide +kernel
theorem e5_2_4 : cF 5 2 4 = true := by decide +kernel
theorem e5_2_5 : cF 5 2 5 = true := by decide +kernel
theorem e5_2_6 : cF 5 2 6 = true := by decide +kernel
theorem e5_2_7 : cF 5 2 7 = true := by decide +kernel
theorem e5_2_8 : cF 5 2 8 = true := by decide +kernel
theorem g5_2 : cG 5 2 = true := (show (List.range 9).all (cF 5 2) = true from (all_s 8 (all_s 7 (all_s 6 (all_s 5 (all_s 4 (all_s 3 (all_s 2 (all_s 1 (all_s 0 all_0 e5_2_0) e5_2_1) e5_2_2) e5_2_3) e5_2_4) e5_2_5) e5_2_6) e5_2_7) e5_2_8))
theorem e5_3_0 : cF 5 3 0 = true := by decide +kernel
theorem e5_3_1 : cF 5 3 1 = true := by decide +kernel
theorem e5_3_2 : cF 5 3 2 = true := by decide +kernel
theorem e5_3_3 : cF 5 3 3 = true := by decide +kernel
theorem e5_3_4 : cF 5 3 4 = true := by decide +kernel
theorem e5_3_5 : cF 5 3 5 = true := by decide +kernel
theorem e5_3_6 : cF 5 3 6 = true := by decide +kernel
theorem e5_3_7 : cF 5 3 7 = true := by decide +kernel
theorem e5_3_8 : cF 5 3 8 = true := by decide +kernel
theorem e5_3_9 : cF 5 3 9 = true := by decide +kernel
theorem e5_3_10 : cF 5 3 10 = true := by decide +kernel
theorem e5_3_11 : cF 5 3 11 = true := by decide +kernel
theorem e5_3_12 : cF 5 3 12 = true := by decide +kernel
theorem g5_3 : cG 5 3 = true := (show (List.range 13).all (cF 5 3) = true from (all_s 12 (all_s 11 (all_s 10 (all_s 9 (all_s 8 (all_s 7 (all_s 6 (all_s 5 (all_s 4 (all_s 3 (all_s 2 (all_s 1 (all_s 0 all_0 e5_3_0) e5_3_1) e5_3_2) e5_3_3) e5_3_4) e5_3_5) e5_3_6) e5_3_7) e5_3_8) e5_3_9) e5_3_10) e5_3_11) e5_3_12))
theorem chk5 : chkA 5 3 = true := (show (List.range 4).all (cG 5) = true from (all_s 3 (all_s 2 (all_s 1 (all_s 0 all_0 g5_0) g5_1) g5_2) g5_3))
end Rm
end

section
set_option Elab.async false
set_option linter.all false
set_option maxRecDepth 100000
set_option maxHeartbeats 0
namespace Rm
theorem e7_0_0 : cF 7 0 0 = true := by decide +kernel
theorem g7_0 : cG 7 0 = true := (show (List.range 1).all (cF 7 0) = true from (all_s 0 all_0 e7_0_0))
theorem e7_1_0 : cF 7 1 0 = true := by decide +kernel
theorem e7_1_1 : cF 7 1 1 = true := by decide +kernel
theorem e7_1_2 : cF 7 1 2 = true := by decide +kernel
theorem e7_1_3 : cF 7 1 3 = true := by decide +kernel
theorem e7_1_4 : cF 7 1 4 = true := by decide +kernel
theorem e7_1_5 : cF 7 1 5 = true := by decide +kernel
theorem e7_1_6 : cF 7 1 6 = true := by decide +kernel
theorem g7_1 : cG 7 1 = true := (show (List.range 7).all (cF 7 1) = true from (all_s 6 (all_s 5 (all_s 4 (all_s 3 (all_s 2 (all_s 1 (all_s 0 all_0 e7_1_0) e7_1_1) e7_1_2) e7_1_3) e7_1_4) e7_1_5) e7_1_6))
theorem e7_2_0 : cF 7 2 0 = true := by decide +kernel
theorem e7_2_1 : cF 7 2 1 = true := by decide +kernel
theorem e7_2_2 : cF 7 2 2 = true := by decide +kernel
theorem e7_2_3 : cF 7 2 3 = true := by decide +kernel
theorem e7_2_4 : cF 7 2 4 = true := by decide +kernel
theorem e7_2_5 : cF 7 2 5 = true := by decide +kernel
theorem e7_2_6 : cF 7 2 6 = true := by decide +kernel
theorem e7_2_7 : cF 7 2 7 = true := by decide +kernel
theorem e7_2_8 : cF 7 2 8 = true := by decide +kernel
theorem e7_2_9 : cF 7 2 9 = true := by decide +kernel
theorem e7_2_10 : cF 7 2 10 = true := by decide +kernel
theorem e7_2_11 : cF 7 2 11 = true := by decide +kernel
theorem e7_2_12 : cF 7 2 12 = true := by decide +kernel
theorem g7_2 : cG 7 2 = true := (show (List.range 13).all (cF 7 2) = true from (all_s 12 (all_s 11 (all_s 10 (all_s 9 (all_s 8 (all_s 7 (all_s 6 (all_s 5 (all_s 4 (all_s 3 (all_s 2 (all_s 1 (all_s 0 all_0 e7_2_0) e7_2_1) e7_2_2) e7_2_3) e7_2_4) e7_2_5) e7_2_6) e7_2_7) e7_2_8) e7_2_9) e7_2_10) e7_2_11) e7_2_12))
theorem chk7 : chkA 7 2 = true := (show (List.range 3).all (cG 7) = true from (all_s 2 (all_s 1 (all_s 0 all_0 g7_0) g7_1) g7_2))
end Rm
end

section
set_option Elab.async false
set_option linter.all false
set_option maxRecDepth 100000
set_option maxHeartbeats 0
namespace Rm
theorem e11_0_0 : cF 11 0 0 = true := by decide +kernel
theorem g11_0 : cG 11 0 = true := (show (List.range 1).all (cF 11 0) = true from (all_s 0 all_0 e11_0_0))
theorem e11_1_0 : cF 11 1 0 = true := by decide +kernel
theorem e11_1_1 : cF 11 1 1 = true := by decide +kernel
theorem e11_1_2 : cF 11 1 2 = true := by decide +kernel
theorem e11_1_3 : cF 11 1 3 = true := by decide +kernel
theorem e11_1_4 : cF 11 1 4 = true := by decide +kernel
theorem e11_1_5 : cF 11 1 5 = true := by decide +kernel
theorem e11_1_6 : cF 11 1 6 = true := by decide +kernel
theorem e11_1_7 : cF 11 1 7 = true := by decide +kernel
theorem e11_1_8 : cF 11 1 8 = true := by decide +kernel
theorem e11_1_9 : cF 11 1 9 = true := by decide +kernel
theorem e11_1_10 : cF 11 1 10 = true := by decide +kernel
theorem g11_1 : cG 11 1 = true := (show (List.range 11).all (cF 11 1) = true from (all_s 10 (all_s 9 (all_s 8 (all_s 7 (all_s 6 (all_s 5 (all_s 4 (all_s 3 (all_s 2 (all_s 1 (all_s 0 all_0 e11_1_0) e11_1_1) e11_1_2) e11_1_3) e11_1_4) e11_1_5) e11_1_6) e11_1_7) e11_1_8) e11_1_9) e11_1_10))
theorem e11_2_0 : cF 11 2 0 = true := by decide +kernel
theorem e11_2_1 : cF 11 2 1 = true := by decide +kernel
theorem e11_2_2 : cF 11 2 2 = true := by decide +kernel
theorem e11_2_3 : cF 11 2 3 = true := by decide +kernel
theorem e11_2_4 : cF 11 2 4 = true := by decide +kernel
theorem e11_2_5 : cF 11 2 5 = true := by decide +kernel
theorem e11_2_6 : cF 11 2 6 = true := by decide +kernel
theorem e11_2_7 : cF 11 2 7 = true := by decide +kernel
theorem e11_2_8 : cF 11 2 8 = true := by decide +kernel
theorem e11_2_9 : cF 11 2 9 = true := by decide +kernel
theorem e11_2_10 : cF 11 2 10 = true := by decide +kernel
theorem e11_2_11 : cF 11 2 11 = true := by decide +kernel
theorem e11_2_12 : cF 11 2 12 = true := by decide +kernel
theorem e11_2_13 : cF 11 2 13 = true := by decide +kernel
theorem e11_2_14 : cF 11 2 14 = true := by decide +kernel
theorem e11_2_15 : cF 11 2 15 = true := by decide +kernel
theorem e11_2_16 : cF 11 2 16 = true := by decide +kernel
theorem e11_2_17 : cF 11 2 17 = true := by decide +kernel
theorem e11_2_18 : cF 11 2 18 = true := by decide +kernel
theorem e11_2_19 : cF 11 2 19 = true := by decide +kernel
theorem e11_2_20 : cF 11 2 20 = true := by decide +kernel
theorem g11_2 : cG 11 2 = true := (show (List.range 21).all (cF 11 2) = true from (all_s 20 (all_s 19 (all_s 18 (all_s 17 (all_s 16 (all_s 15 (all_s 14 (all_s 13 (all_s 12 (all_s 11 (all_s 10 (all_s 9 (all_s 8 (all_s 7 (all_s 6 (all_s 5 (all_s 4 (all_s 3 (all_s 2 (all_s 1 (all_s 0 all_0 e11_2_0) e11_2_1) e11_2_2) e11_2_3) e11_2_4) e11_2_5) e11_2_6) e11_2_7) e11_2_8) e11_2_9) e11_2_10) e11_2_11) e11_2_12) e11_2_13) e11_2_14) e11_2_15) e11_2_16) e11_2_17) e11_2_18) e11_2_19) e11_2_20))
theorem chk11 : chkA 11 2 = true := (show (List.range 3).all (cG 11) = true from (all_s 2 (all_s 1 (all_s 0 all_0 g11_0) g11_1) g11_2))
end Rm
end

section
set_option Elab.async false
set_option linter.all false
set_option maxRecDepth 100000
set_option maxHeartbeats 0
namespace Rm
theorem e13_0_0 : cF 13 0 0 = true := by decide +kernel
theorem g13_0 : cG 13 0 = true := (show (List.range 1).all (cF 13 0) = true from (all_s 0 all_0 e13_0_0))
theorem e13_1_0 : cF 13 1 0 = true := by decide +kernel
theorem e13_1_1 : cF 13 1 1 = true := by decide +kernel
theorem e13_1_2 : cF 13 1 2 = true := by decide +kernel
theorem e13_1_3 : cF 13 1 3 = true := by decide +kernel
theorem e13_1_4 : cF 13 1 4 = true := by decide +kernel
theorem e13_1_5 : cF 13 1 5 = true := by decide +kernel
theorem e13_1_6 : cF 13 1 6 = true := by decide +kernel
theorem e13_1_7 : cF 13 1 7 = true := by decide +kernel
theorem e13_1_8 : cF 13 1 8 = true := by decide +kernel
theorem e13_1_9 : cF 13 1 9 = true := by decide +kernel
theorem e13_1_10 : cF 13 1 10 = true := by decide +kernel
theorem e13_1_11 : cF 13 1 11 = true := by decide +kernel
theorem e13_1_12 : cF 13 1 12 = true := by decide +kernel
theorem g13_1 : cG 13 1 = true := (show (List.range 13).all (cF 13 1) = true from (all_s 12 (all_s 11 (all_s 10 (all_s 9 (all_s 8 (all_s 7 (all_s 6 (all_s 5 (all_s 4 (all_s 3 (all_s 2 (all_s 1 (all_s 0 all_0 e13_1_0) e13_1_1) e13_1_2) e13_1_3) e13_1_4) e13_1_5) e13_1_6) e13_1_7) e13_1_8) e13_1_9) e13_1_10) e13_1_11) e13_1_12))
theorem e13_2_0 : cF 13 2 0 = true := by decide +kernel
theorem e13_2_1 : cF 13 2 1 = true := by decide +kernel
theorem e13_2_2 : cF 13 2 2 = true := by decide +kernel
theorem e13_2_3 : cF 13 2 3 = true := by decide +kernel
theorem e13_2_4 : cF 13 2 4 = true := by decide +kernel
theorem e13_2_5 : cF 13 2 5 = true := by decide +kernel
theorem e13_2_6 : cF 13 2 6 = true := by decide +kernel
theorem e13_2_7 : cF 13 2 7 = true := by decide +kernel
theorem e13_2_8 : cF 13 2 8 = true := by decide +kernel
theorem e13_2_9 : cF 13 2 9 = true := by decide +kernel
theorem e13_2_10 : cF 13 2 10 = true := by decide +kernel
theorem e13_2_11 : cF 13 2 11 = true := by decide +kernel
theorem e13_2_12 : cF 13 2 12 = true := by decide +kernel
theorem e13_2_13 : cF 13 2 13 = true := by decide +kernel
theorem e13_2_14 : cF 13 2 14 = true := by decide +kernel
theorem e13_2_15 : cF 13 2 15 = true := by decide +kernel
theorem e13_2_16 : cF 13 2 16 = true := by decide +kernel
theorem e13_2_17 : cF 13 2 17 = true := by decide +kernel
theorem e13_2_18 : cF 13 2 18 = true := by decide +kernel
theorem e13_2_19 : cF 13 2 19 = true := by decide +kernel
theorem e13_2_20 : cF 13 2 20 = true := by decide +kernel
theorem e13_2_21 : cF 13 2 21 = true := by decide +kernel
theorem e13_2_22 : cF 13 2 22 = true := by decide +kernel
theorem e13_2_23 : cF 13 2 23 = true := by decide +kernel
theorem e13_2_24 : cF 13 2 24 = true := by decide +kernel
theorem g13_2 : cG 13 2 = true := (show (List.range 25).all (cF 13 2) = true from (all_s 24 (all_s 23 (all_s 22 (all_s 21 (all_s 20 (all_s 19 (all_s 18 (all_s 17 (all_s 16 (all_s 15 (all_s 14 (all_s 13 (all_s 12 (all_s 11 (all_s 10 (all_s 9 (all_s 8 (all_s 7 (all_s 6 (all_s 5 (all_s 4 (all_s 3 (all_s 2 (all_s 1 (all_s 0 all_0 e13_2_0) e13_2_1) e13_2_2) e13_2_3) e13_2_4) e13_2_5) e13_2_6) e13_2_7) e13_2_8) e13_2_9) e13_2_10) e13_2_11) e13_2_12) e13_2_13) e13_2_14) e13_2_15) e13_2_16) e13_2_17) e13_2_18) e13_2_19) e13_2_20) e13_2_21) e13_2_22) e13_2_23) e13_2_24))
theorem chk13 : chkA 13 2 = true := (show (List.range 3).all (cG 13) = true from (all_s 2 (all_s 1 (all_s 0 all_0 g13_0) g13_1) g13_2))
end Rm
end

section
set_option Elab.async false
set_option linter.all false
set_option maxRecDepth 100000
set_option maxHeartbeats 4000000
namespace K04
open PySem PySem.Spec PyProof.Rows Dp Rm
theorem chk_in {P n s d : Nat} (h : chkA P n = true) (hs : s ≤ n) (hd : d ≤ s * (P - 1)) : chkL P s d = true ∧ chk P s d = true := by
  unfold chkA at h
  rw [List.all_eq_true] at h
  have h1 := h s (List.mem_range.mpr (by omega))
  rw [List.all_eq_true] at h1
  exact Bool.and_eq_true_iff.mp (h1 d (List.mem_range.mpr (by omega)))
theorem low_s {P s n : Nat} (hP : 1 ≤ P) (h : P ^ s ≤ 170) (hn : 170 < P ^ (n + 1)) : s ≤ n := by
  apply Classical.byContradiction
  intro hh
  have := Nat.pow_le_pow_right hP (show n + 1 ≤ s by omega)
  omega
theorem chk_get {P s d : Nat} (hP : Pr P) (hN : P ^ s ≤ 170) (hd : d ≤ s * (P - 1)) : chkL P s d = true ∧ chk P s d = true := by
  rcases pr_nat hP with rfl | rfl | rfl | rfl | rfl | rfl
  · exact chk_in chk2 (low_s (by decide) hN (by decide)) hd
  · exact chk_in chk3 (low_s (by decide) hN (by decide)) hd
  · exact chk_in chk5 (low_s (by decide) hN (by decide)) hd
  · exact chk_in chk7 (low_s (by decide) hN (by decide)) hd
  · exact chk_in chk11 (low_s (by decide) hN (by decide)) hd
  · exact chk_in chk13 (low_s (by decide) hN (by decide)) hd
theorem powJ_eq (b : Int) : ∀ k, powJ b k = powI b k
  | 0 => rfl
  | k + 1 => by
    show powJ b k * b = powI b k * b
    rw [powJ_eq b k]
theorem fewJ_eq (p s d : Int) : fewJ p s d = fewI p s d := by
  unfold fewJ fewI
  rw [powJ_eq]
/-! ### refusals -/
theorem c_40o0 (n : Nat) (m : Mu) (p s d : D) (v : SV) (h : callN G n 4 [p, s, d] m = .ok v m) : callN G (n + 1) 40 [.int 0, p, s, d] m = .ok (.own (.lst [.str "none", .int 0])) m := by
  have z2 : (2 : Nat) ≤ sizeLine := szl (by decide)
  rw [o_40]
  simp -implicitDefEqProofs [↓evS_for, ↓evE_lc, ↓evE_lcd, ↓evE_lco, ↓evE_dc, evSs, evS, evE, evEs, evP, evPs, evI, evB, evBor, evBand, evO, evOB, evAnd, bindT, wipeS, b_40, z2, h]
theorem c_40o1 (n : Nat) (m : Mu) (p s d : D) (v : SV) (h : callN G n 15 [p, s, d] m = .ok v m) : callN G (n + 1) 40 [.int 1, p, s, d] m = .ok (.own (.lst [.str "none", .int 0])) m := by
  have z2 : (2 : Nat) ≤ sizeLine := szl (by decide)
  rw [o_40]
  simp -implicitDefEqProofs [↓evS_for, ↓evE_lc, ↓evE_lcd, ↓evE_lco, ↓evE_dc, evSs, evS, evE, evEs, evP, evPs, evI, evB, evBor, evBand, evO, evOB, evAnd, bindT, wipeS, b_40, z2, h]
theorem c_40n0 (n : Nat) (m : Mu) (p s d e : D) (h : callN G n 4 [p, s, d] m = .ex (eBN e) m) : callN G (n + 1) 40 [.int 0, p, s, d] m = .ok (.own (.lst [.str "number", e])) m := by
  have z2 : (2 : Nat) ≤ sizeLine := szl (by decide)
  have hd := hd_n e (some (.val (.int 0))) (some (.val p)) (some (.val s)) (some (.val d)) (some (.own (.lst [.str "none", .int 0]))) none m
  rw [o_40]
  simp -implicitDefEqProofs [↓evS_for, ↓evE_lc, ↓evE_lcd, ↓evE_lco, ↓evE_dc, evSs, evS, evE, evEs, evP, evPs, evI, evB, evBor, evBand, evO, evOB, evAnd, bindT, wipeS, b_40, z2, h, hd]
theorem c_40n1 (n : Nat) (m : Mu) (p s d e : D) (h : callN G n 15 [p, s, d] m = .ex (eBN e) m) : callN G (n + 1) 40 [.int 1, p, s, d] m = .ok (.own (.lst [.str "number", e])) m := by
  have z2 : (2 : Nat) ≤ sizeLine := szl (by decide)
  have hd := hd_n e (some (.val (.int 1))) (some (.val p)) (some (.val s)) (some (.val d)) (some (.own (.lst [.str "none", .int 0]))) none m
  rw [o_40]
  simp -implicitDefEqProofs [↓evS_for, ↓evE_lc, ↓evE_lcd, ↓evE_lco, ↓evE_dc, evSs, evS, evE, evEs, evP, evPs, evI, evB, evBor, evBand, evO, evOB, evAnd, bindT, wipeS, b_40, z2, h, hd]
theorem c_40p0 (n : Nat) (m : Mu) (p s d e : D) (h : callN G n 4 [p, s, d] m = .ex (eBP e) m) : callN G (n + 1) 40 [.int 0, p, s, d] m = .ok (.own (.lst [.str "prime", e])) m := by
  have z2 : (2 : Nat) ≤ sizeLine := szl (by decide)
  have hd := hd_p e (some (.val (.int 0))) (some (.val p)) (some (.val s)) (some (.val d)) (some (.own (.lst [.str "none", .int 0]))) none m
  rw [o_40]
  simp -implicitDefEqProofs [↓evS_for, ↓evE_lc, ↓evE_lcd, ↓evE_lco, ↓evE_dc, evSs, evS, evE, evEs, evP, evPs, evI, evB, evBor, evBand, evO, evOB, evAnd, bindT, wipeS, b_40, z2, h, hd]
theorem c_40p1 (n : Nat) (m : Mu) (p s d e : D) (h : callN G n 15 [p, s, d] m = .ex (eBP e) m) : callN G (n + 1) 40 [.int 1, p, s, d] m = .ok (.own (.lst [.str "prime", e])) m := by
  have z2 : (2 : Nat) ≤ sizeLine := szl (by decide)
  have hd := hd_p e (some (.val (.int 1))) (some (.val p)) (some (.val s)) (some (.val d)) (some (.own (.lst [.str "none", .int 0]))) none m
  rw [o_40]
  simp -implicitDefEqProofs [↓evS_for, ↓evE_lc, ↓evE_lcd, ↓evE_lco, ↓evE_dc, evSs, evS, evE, evEs, evP, evPs, evI, evB, evBor, evBand, evO, evOB, evAnd, bindT, wipeS, b_40, z2, h, hd]
theorem c_40t1 (n : Nat) (m : Mu) (p s d : D) (i : Int) (h : callN G n 15 [p, s, d] m = .ex (eTM i) m) : callN G (n + 1) 40 [.int 1, p, s, d] m = .ok (.own (.lst [.str "many", .int i])) m := by
  have z2 : (2 : Nat) ≤ sizeLine := szl (by decide)
  have hd := hd_t i (some (.val (.int 1))) (some (.val p)) (some (.val s)) (some (.val d)) (some (.own (.lst [.str "none", .int 0]))) none m
  rw [o_40]
  simp -implicitDefEqProofs [↓evS_for, ↓evE_lc, ↓evE_lcd, ↓evE_lco, ↓evE_dc, evSs, evS, evE, evEs, evP, evPs, evI, evB, evBor, evBand, evO, evOB, evAnd, bindT, wipeS, b_40, z2, h, hd]
def Flat (d : D) : Prop := d = .non ∨ d = .str "0" ∨ ∃ i, d = .int i
theorem eq_two (a : Str) (ha : a = "number" ∨ a = "prime" ∨ a = "many" ∨ a = "none") (d : D) (h : Flat d) : eqD? (.lst [.str a, d]) (.lst [.str a, d]) = some true := by
  have h0 : PyData.strOk ("0" : Str) = true := by kernel_rfl
  have hx : PyData.strOk a = true := by rcases ha with rfl | rfl | rfl | rfl <;> kernel_rfl
  have key : ∀ q : PyData, d.py = some q → SeqAt.shaped (.list [.str a, q]) = true → PyData.eqv q q = true → eqD? (.lst [.str a, d]) (.lst [.str a, d]) = some true := fun q h1 h2 h3 => by
    have e : D.py (.lst [.str a, d]) = some (.list [.str a, q]) := by
      show ((some (PyData.str a)).bind fun p => ((d.py).bind fun p2 => (some []).map fun ps => p2 :: ps).map fun ps => p :: ps).map PyData.list = _
      rw [h1]
      rfl
    unfold eqD?
    rw [e]
    dsimp only
    rw [h2]
    show some (PyData.eqv (.str a) (.str a) && (PyData.eqv q q && true)) = some true
    rw [h3]
    simp [PyData.eqv]
  rcases h with rfl | rfl | ⟨i, rfl⟩
  · exact key .none rfl (by simp [SeqAt.shaped, PyData.canLay0, PyData.canLayAll0, PyData.depth, PyData.depthAll, hx]) (by simp [PyData.eqv])
  · exact key (.str "0") rfl (by simp [SeqAt.shaped, PyData.canLay0, PyData.canLayAll0, PyData.depth, PyData.depthAll, hx, h0]) (by simp [PyData.eqv])
  · exact key (.int i) rfl (by simp [SeqAt.shaped, PyData.canLay0, PyData.canLayAll0, PyData.depth, PyData.depthAll, hx]) (by simp [PyData.eqv])
theorem ne_two (a : Str) (ha : a = "number" ∨ a = "prime" ∨ a = "many" ∨ a = "none") (d : D) (h : Flat d) (m : Mu) : opC .ne (.lst [.str a, d]) (.lst [.str a, d]) m = .ok (.val (.bl false)) m :=
  c_of (show (eqD? (.lst [.str a, d]) (.lst [.str a, d])).map not = some false by rw [eq_two a ha d h]; rfl)
theorem eq_two' (a : Str) (ha : a = "number" ∨ a = "prime" ∨ a = "many" ∨ a = "none") (d : D) (h : Flat d) (m : Mu) : opC .eq (.lst [.str a, d]) (.lst [.str a, d]) m = .ok (.val (.bl true)) m :=
  c_of (eq_two a ha d h)
end K04
end

section
set_option Elab.async false
set_option linter.all false
set_option maxRecDepth 100000
set_option maxHeartbeats 4000000
namespace K04
open PySem PySem.Spec PyProof.Rows Dp Rm
theorem wr_ex (P s : Int) (v u : Int) (hv : 0 ≤ v) (hu : 0 ≤ u ∧ u < 5) : ∃ d, Wr P s d ∧ Flat d ∧ ∀ m, opIx (.lst [.int (s * (P - 1) + 1), .int (-1), .str "0", .non, .int (s * (P - 1) + 1 + v)]) (.int u) m = .ok (.val d) m := by
  have : u = 0 ∨ u = 1 ∨ u = 2 ∨ u = 3 ∨ u = 4 := by omega
  rcases this with rfl | rfl | rfl | rfl | rfl
  · exact ⟨_, .inr (.inr ⟨_, rfl, .inr (by omega)⟩), .inr (.inr ⟨_, rfl⟩), fun m => rfl⟩
  · exact ⟨_, .inr (.inr ⟨_, rfl, .inl (by omega)⟩), .inr (.inr ⟨_, rfl⟩), fun m => rfl⟩
  · exact ⟨_, .inr (.inl rfl), .inr (.inl rfl), fun m => rfl⟩
  · exact ⟨_, .inl rfl, .inl rfl, fun m => rfl⟩
  · exact ⟨_, .inr (.inr ⟨_, rfl, .inr (by omega)⟩), .inr (.inr ⟨_, rfl⟩), fun m => rfl⟩
theorem t_39 (n : Nat) (m : Mu) (P : Nat) (hP : Pr P) (s : Nat) (hN : P ^ s ≤ 170) (hs : s ≤ 90) (x0 : SV) (d : D) (hd : Wr P s d) (hf : Flat d) (w : Nat) (hw : w < 2) :
    ∃ s1, bodyF (callN G (n + 11)) (.nm 5) l_39_0 (.int (w : Nat)) [some x0, some (.val (.int (P : Nat))), some (.val (.int (s : Nat))), some (.val (.int ((s : Int) * ((P : Int) - 1)))), some (.val d), none, none] m = .nx s1 m ∧
      wipeS s1 [5] = [some x0, some (.val (.int (P : Nat))), some (.val (.int (s : Nat))), some (.val (.int ((s : Int) * ((P : Int) - 1)))), some (.val d), none, none] := by
  have hq := hP.pos
  have hq1 : ((P - 1 : Nat) : Int) = (P : Int) - 1 := by omega
  have htop : ((s * (P - 1) : Nat) : Int) = (s : Int) * ((P : Int) - 1) := by rw [Int.natCast_mul, hq1]
  have e1 := ne_two "number" (.inl rfl) d hf m
  have e2 := ne_two "number" (.inl rfl) (.int 91) (.inr (.inr ⟨_, rfl⟩)) m
  have e3 := ne_two "prime" (.inr (.inl rfl)) (.int 6) (.inr (.inr ⟨_, rfl⟩)) m
  have e4 := ne_two "none" (.inr (.inr (.inr rfl))) (.int 0) (.inr (.inr ⟨_, rfl⟩)) m
  have z2 : (2 : Nat) ≤ sizeLine := szl (by decide)
  have h01 : w = 0 ∨ w = 1 := by omega
  rcases h01 with rfl | rfl
  · have r1 := c_40n0 (n + 10) m (.int (P : Nat)) (.int (s : Nat)) d d (c_4d (n + 7) m P hP s (by omega) d hd)
    have r2 := c_40n0 (n + 10) m (.int (P : Nat)) (.int 91) d (.int 91) (c_4s (n + 7) m P hP d)
    have r3 := c_40p0 (n + 10) m (.int 6) (.int 91) d (.int 6) (c_4p (n + 7) m d (.int 91))
    have r4 := c_40o0 (n + 10) m (.int (P : Nat)) (.int (s : Nat)) (.int ((s : Int) * ((P : Int) - 1))) _ (c_4 (n + 7) P hP s _ (by omega) (by rw [← htop]; omega) m)
    refine ⟨[some x0, some (.val (.int (P : Nat))), some (.val (.int (s : Nat))), some (.val (.int ((s : Int) * ((P : Int) - 1)))), some (.val d), some (.val (.int ((0 : Nat) : Int))), none], ?_, rfl⟩
    generalize (s : Int) * ((P : Int) - 1) = top at *
    simp -implicitDefEqProofs [↓evS_for, ↓evE_lc, ↓evE_lcd, ↓evE_lco, ↓evE_dc, evSs, evS, evE, evEs, evP, evPs, evI, evB, evBor, evBand, evO, evOB, evAnd, bindT, wipeS, bodyF, l_39_0, r1, r2, r3, r4, e1, e2, e3, e4, z2]
  · obtain ⟨k1, k2⟩ := chk_get hP hN (Nat.le_refl (s * (P - 1)))
    have c15 := c_15 (n + 2) m P hP s hs (s * (P - 1)) (Nat.le_refl _) k1 (by omega)
    rw [htop] at c15
    have r1 := c_40n1 (n + 10) m (.int (P : Nat)) (.int (s : Nat)) d d (c_15d (n + 7) m P hP s (by omega) d hd)
    have r2 := c_40n1 (n + 10) m (.int (P : Nat)) (.int 91) d (.int 91) (c_15s (n + 7) m P hP d)
    have r3 := c_40p1 (n + 10) m (.int 6) (.int 91) d (.int 6) (c_15p (n + 7) m d (.int 91))
    have r4 := c_40o1 (n + 10) m (.int (P : Nat)) (.int (s : Nat)) (.int ((s : Int) * ((P : Int) - 1))) _ c15
    refine ⟨[some x0, some (.val (.int (P : Nat))), some (.val (.int (s : Nat))), some (.val (.int ((s : Int) * ((P : Int) - 1)))), some (.val d), some (.val (.int ((1 : Nat) : Int))), none], ?_, rfl⟩
    generalize (s : Int) * ((P : Int) - 1) = top at *
    simp -implicitDefEqProofs [↓evS_for, ↓evE_lc, ↓evE_lcd, ↓evE_lco, ↓evE_dc, evSs, evS, evE, evEs, evP, evPs, evI, evB, evBor, evBand, evO, evOB, evAnd, bindT, wipeS, bodyF, l_39_0, r1, r2, r3, r4, e1, e2, e3, e4, z2]
theorem c_39 (n : Nat) (P : Nat) (hP : Pr P) (s : Nat) (hN : P ^ s ≤ 170) (hs : s ≤ 90) (ds : List Int) : ∃ ds', callN G (n + 12) 39 [.ref 0, .int (P : Nat), .int (s : Nat)] (dw ds) = .ok (.val (.bl true)) (dw ds') := by
  have hq := hP.pos
  obtain ⟨v, ds1, v0, v1, v2⟩ := c_3 (n + 10) 30 (by decide) ds []
  obtain ⟨u, ds2, u0, u1, u2⟩ := c_3 (n + 10) 5 (by decide) ds1 []
  obtain ⟨low, ds3, l0, l1, l2⟩ := c_3 (n + 10) 3 (by decide) ds2 []
  obtain ⟨d, hd, hf, ix⟩ := wr_ex P s v u v0 ⟨u0, u1⟩
  have bm := b_mulS (i := (s : Int)) (j := (P : Int) - 1) (m := dw ds) (by omega) (by omega)
  have key := forL_con (m := dw ds2) (fg := [5]) (F := bodyF (callN G (n + 11)) (.nm 5) l_39_0) (fun i : Nat => D.int (i : Nat)) [some (.val (.ref 0)), some (.val (.int (P : Nat))), some (.val (.int (s : Nat))), some (.val (.int ((s : Int) * ((P : Int) - 1)))), some (.val d), none, none] (List.range 2) (fun w hw => t_39 n (dw ds2) P hP s hN hs (.val (.ref 0)) d hd hf w (List.mem_range.mp hw))
  have hp2 : Pr (2 : Nat) := .inl rfl
  obtain ⟨lo, hlo⟩ : ∃ k : Nat, low = (k : Int) := ⟨low.toNat, by omega⟩
  have c4 := c_4 (n + 7) 2 hp2 15 low (by decide) ⟨l0, by omega⟩ (dw ds3)
  have r5 := c_40o0 (n + 10) (dw ds3) (.int 2) (.int 15) (.int low) _ c4
  have r6 := c_40t1 (n + 10) (dw ds3) (.int 2) (.int 15) (.int low) 20000 (c_15t (n + 5) (dw ds3) low (by omega))
  have ck : chkL 2 14 lo = true := List.all_eq_true.mp chk0 lo (List.mem_range.mpr (by omega))
  have c15 := c_15 (n + 2) (dw ds3) 2 hp2 14 (by decide) lo (by omega) ck (by decide)
  rw [← hlo] at c15
  have r7 := c_40o1 (n + 10) (dw ds3) (.int 2) (.int 14) (.int low) _ c15
  have e4 := ne_two "none" (.inr (.inr (.inr rfl))) (.int 0) (.inr (.inr ⟨_, rfl⟩)) (dw ds3)
  have e5 := eq_two' "many" (.inr (.inr (.inl rfl))) (.int 20000) (.inr (.inr ⟨_, rfl⟩)) (dw ds3)
  have e6 := eq_two' "none" (.inr (.inr (.inr rfl))) (.int 0) (.inr (.inr ⟨_, rfl⟩)) (dw ds3)
  have z2 : (2 : Nat) ≤ sizeLine := szl (by decide)
  have z5 : (5 : Nat) ≤ sizeLine := szl (by decide)
  have rr : r62 2 = true := rfl
  have n2 : (2 : Int).toNat = 2 := rfl
  refine ⟨ds3, ?_⟩
  generalize (s : Int) * ((P : Int) - 1) = top at *
  rw [o_39]
  simp -implicitDefEqProofs [↓evS_for, ↓evE_lc, ↓evE_lcd, ↓evE_lco, ↓evE_dc, evSs, evS, evE, evEs, evP, evPs, evI, evB, evBor, evBand, evO, evOB, evAnd, bindT, wipeS, b_39, bm, v2, u2, ix, z5, rr, n2, key, l2, r5, r6, r7, e4, e5, e6, z2]
end K04
end

section
set_option Elab.async false
set_option linter.all false
set_option maxRecDepth 100000
set_option maxHeartbeats 4000000
namespace K04
open PySem PySem.Spec PyProof.Rows Dp Rm
theorem ix_last {t : LT} {q : List Int × Int} (h : t.getLast? = some q) (m : Mu) : opIx (.tup (t.map tmD)) (.int (-1)) m = .ok (.val (tmD q)) m := by
  have hne : t ≠ [] := fun z => by rw [z] at h; cases h
  have hl : 0 < t.length := List.length_pos_iff.mpr hne
  have e : L2.atI (t.map tmD) (-1) = some (tmD q) := by
    unfold L2.atI L2.ixN
    rw [List.length_map, if_neg (by decide), if_pos (by omega)]
    show (t.map tmD)[(-1 + (t.length : Int)).toNat]? = _
    rw [show (-1 + (t.length : Int)).toNat = t.length - 1 by omega, List.getElem?_map, ← List.getLast?_eq_getElem?, h]
    rfl
  show (match L2.atI (t.map tmD) (-1) with | some d => R.ok (SV.val d) m | none => R.bad) = _
  rw [e]
theorem c_32 (n : Nat) (m : Mu) (p : Int) (s : Nat) (t : LT) (q : List Int × Int) (h : t.getLast? = some q) : callN G (n + 1) 32 [plD p s t] m = .ok (.val (.int q.1.sum)) m := by
  have hne : (t.map tmD).isEmpty = false := by
    cases t with
    | nil => cases h
    | cons a t => rfl
  have ix := ix_last h m
  have fs := f_sum q.1 m
  have tr : truthD (.tup (t.map tmD)) = some true := by
    show some (!(t.map tmD).isEmpty) = _
    rw [hne]
    rfl
  rw [o_32]
  simp -implicitDefEqProofs [↓evS_for, ↓evE_lc, ↓evE_lcd, ↓evE_lco, ↓evE_dc, evSs, evS, evE, evEs, evP, evPs, evI, evB, evBor, evBand, evO, evOB, evAnd, bindT, wipeS, b_32, fl0, in1, in2, in3, g1, g2, g3, tr, ix, fs]
theorem max_eq {ts : LT} {d : Int} (h1 : ∀ q ∈ ts, q.1.sum ≤ d) {q : List Int × Int} (hq : q ∈ ts) (h2 : q.1.sum = d) (m : Mu) : opF .max [.lst (ts.map fun q => .int q.1.sum)] m = .ok (.val (.int d)) m := by
  cases ts with
  | nil => cases hq
  | cons a ts =>
    obtain ⟨g1, g2⟩ := maxI_ok a.1.sum (ts.map fun q => q.1.sum)
    have hm : maxI a.1.sum (ts.map fun q => q.1.sum) = d := by
      refine Int.le_antisymm ?_ ?_
      · rcases List.mem_cons.mp g1 with e | e
        · rw [e]
          exact h1 a (by simp)
        · obtain ⟨r, hr, e⟩ := List.mem_map.mp e
          rw [← e]
          exact h1 r (by simp [hr])
      · rw [← h2]
        refine g2 _ ?_
        rcases List.mem_cons.mp hq with rfl | hq
        · simp
        · exact List.mem_cons_of_mem _ (List.mem_map_of_mem (f := fun q : List Int × Int => q.1.sum) hq)
    have e : ((a :: ts).map fun q => D.int q.1.sum) = (a.1.sum :: ts.map fun q => q.1.sum).map .int := by
      rw [List.map_cons, List.map_cons, List.map_map]
      rfl
    rw [e]
    show (match D.nums ((a.1.sum :: ts.map fun q => q.1.sum).map .int) with | some (a :: l) => R.ok (SV.val (.int (maxI a l))) m | _ => .bad) = _
    rw [nums_ints]
    show R.ok (SV.val (.int (maxI a.1.sum (ts.map fun q => q.1.sum)))) m = _
    rw [hm]
theorem lk32 : List.lookup ("Poly" : Str) [(("Poly" : Str), 32)] = some 32 := rfl
theorem c_14 (n : Nat) (m : Mu) (P : Nat) (hP : Pr P) (s : Nat) (hN : P ^ s ≤ 170) (hs : s ≤ 90) (d : Nat) (hd : d ≤ s * (P - 1)) : callN G (n + 9) 14 [.int (P : Nat), .int (s : Nat), .int (d : Nat), pl (ptsI P s)] m = .ok (.val (.bl true)) m := by
  have hq := hP.pos
  have hq1 : ((P - 1 : Nat) : Int) = (P : Int) - 1 := by omega
  obtain ⟨k1, k2⟩ := chk_get hP hN hd
  have c15 := c_15 n m P hP s hs d hd k1 (by omega)
  unfold chk at k2
  generalize fpT (P : Int) s d = ts at *
  dsimp only at k2
  simp only [Bool.and_eq_true, List.all_eq_true, decide_eq_true_eq] at k2
  obtain ⟨t1, t2, t3, t4, t5⟩ := k2
  have htn : Tn P s ts := fun q hq2 => by
    obtain ⟨a1, a2, a3, a4⟩ := t1 q hq2
    exact ⟨a1, a2, a3, a4⟩
  cases hlast : ts.getLast? with
  | none => rw [hlast] at t4; cases t4
  | some q =>
    rw [hlast] at t4
    have t4 : q.1.sum = (d : Int) := of_decide_eq_true t4
    have hmem : q ∈ ts := List.mem_of_getLast? hlast
    have hne : ¬ ts = [] := fun z => by rw [z] at hmem; cases hmem
    have hlen : ¬ ts.length = 0 := fun z => hne (List.eq_nil_of_length_eq_zero z)
    have tl : ts.length ≤ 200 := by
      have hh : (ts.map (·.1)).length ≤ (ptsI P s).length := by
        refine (List.Nodup.length_le_of_subset t2 fun e he => ?_)
        obtain ⟨r, hr, rfl⟩ := List.mem_map.mp he
        haveI : NeZero P := ⟨by omega⟩
        obtain ⟨a1, a2, _, _⟩ := t1 r hr
        have hb : Box P s (r.1.map Int.toNat) := ⟨by simp [a1], fun k hk => by
          obtain ⟨i, hi, rfl⟩ := List.mem_map.mp hk
          have := a2 i hi
          omega⟩
        have hj := idx_lt hb
        obtain ⟨x, e1, e2, e3⟩ := ptsI_at (p := P) hj
        have ex : x.map (·.val) = r.1.map Int.toNat := idx_inj (n := s) (by rw [← e3]; exact box_val) hb e2
        have eu : up x = r.1 := by
          have : up x = (x.map (·.val)).map (fun k : Nat => (k : Int)) := by unfold up; rw [List.map_map]; rfl
          rw [this, ex, List.map_map]
          conv => rhs; rw [← List.map_id r.1]
          exact List.map_congr_left fun k hk => Int.toNat_of_nonneg (a2 k hk).1
        have hlt : idx P (r.1.map Int.toNat) < (ptsI P s).length := by rw [ptsI_len]; exact hj
        have hm : (ptsI P s).getD (idx P (r.1.map Int.toNat)) [] ∈ ptsI P s := by
          rw [List.getD, List.getElem?_eq_getElem hlt]
          exact List.getElem_mem _
        rw [e1, eu] at hm
        exact hm
      rw [List.length_map, ptsI_len] at hh
      omega
    have c30 := c_30 (n + 5) m P (by omega) s (by omega) ts htn t2 (by omega)
    have c32 := c_32 (n + 7) m (P : Int) s ts q hlast
    rw [t4] at c32
    have lk := lcL_mapf (m := m) (F := lcF (callN G (n + 8)) [some (.val (.int (P : Nat))), some (.val (.int (s : Nat))), some (.val (.int (d : Nat))), some (.val (pl (ptsI P s))), some (.val (plD P s ts)), none] (.nm 5) .none (.bif .sum (.cons (.e (.idx (.e (.var 5)) (.int 0))) .nil))) tmD (fun q => D.int q.1.sum) ts [] (by simp; omega) (fun r _ => by
      have fs := f_sum r.1 m
      simp -implicitDefEqProofs [↓evS_for, ↓evE_lc, ↓evE_lcd, ↓evE_lco, ↓evE_dc, evSs, evS, evE, evEs, evP, evPs, evI, evB, evBor, evBand, evO, evOB, evAnd, bindT, wipeS, lcF, fs])
    rw [List.nil_append] at lk
    have mx := max_eq t3 hmem t4 m
    have c33 := c_33 (n + 5) m (P : Int) (by omega) s (by omega) ts (tm_ok (by omega) htn) (ptsI P s) (fun x hx => pt_ok (by omega) hx) (by rw [ptsI_len]; omega) _ (.inr rfl)
    have c11 := c_11 (n + 6) (P : Int) hP (s : Int) (d : Int) (by omega) ⟨by omega, by rw [← hq1, ← Int.natCast_mul]; omega⟩ m
    have hpl : (placesR P ts (ptsI P s) : Int) = fewI P s d := by
      rw [placesF_eq P s ts (ptsI P s) (fun q hq2 => (t1 q hq2).1) fun x hx => (ptsI_mem hx).1, ← fewJ_eq]
      exact t5
    rw [hpl] at c33
    have ip := isi_pl P s ts
    generalize fewI (P : Int) s d = fe at *
    generalize ptsI P s = pts at *
    rw [o_14]
    simp -implicitDefEqProofs [↓evS_for, ↓evE_lc, ↓evE_lcd, ↓evE_lco, ↓evE_dc, evSs, evS, evE, evEs, evP, evPs, evI, evB, evBor, evBand, evO, evOB, evAnd, bindT, wipeS, b_14, c15, ip, fl0, in1, in2, in3, g1, g2, g3, c30, hne, hlen, lk, mx, lk32, c32, c33, c11]
end K04
end

section
set_option Elab.async false
set_option linter.all false
set_option maxRecDepth 100000
set_option maxHeartbeats 4000000
namespace K04
open PySem PySem.Spec PyProof.Rows Dp
/-! ### the draws -/
theorem szl2 {n : Nat} (h : n ≤ 9000) : n ≤ sizeLine := Nat.le_trans h (by decide)
theorem pw18 (m : Mu) : opB .pow (.int 10) (.int 18) m = .ok (.val (.int 1000000000000000000)) m := rfl
theorem l_1a (n : Nat) (m : Mu) (x0 x2 : SV) (y5 : Option SV) (cell : Int) (acc : List Int) (hl : acc.length ≤ 8000) : ∃ (acc' : List Int) (y3 : Int) (y4 : Option SV), acc'.length ≤ acc.length + 40 ∧ forL [] (bodyF (callN G n) (.nm 4) l_1_0) ((List.range 40).map fun i : Nat => D.int (i : Nat)) [some x0, some (.own (.lst (acc.map .int))), some x2, some (.val (.int cell)), none, y5] m = .nx [some x0, some (.own (.lst (acc'.map .int))), some x2, some (.val (.int y3)), y4, y5] m := by
  obtain ⟨⟨acc', y3, y4⟩, h1, h2⟩ := forL_ex (fg := []) (F := bodyF (callN G n) (.nm 4) l_1_0) (fun i : Nat => D.int (i : Nat)) (fun b : List Int × Int × Option SV => [some x0, some (.own (.lst (b.1.map .int))), some x2, some (.val (.int b.2.1)), b.2.2, y5]) (fun _ => m) (fun xs b => b.1.length + xs.length ≤ acc.length + 40)
    (fun x xs b hb => by
      rw [List.length_cons] at hb
      have z0 : b.1.length < sizeLine := szl2 (n := b.1.length + 1) (by omega)
      have bm := b_mod (i := b.2.1) (j := 30) (m := m) (by decide)
      have bf := b_fdiv (i := b.2.1) (j := 30) (m := m) (by decide) (by decide)
      by_cases hc : 0 < b.2.1
      · refine ⟨(b.1 ++ [b.2.1 % 30], b.2.1 / 30, some (.val (.int (x : Nat)))), ?_, [some x0, some (.own (.lst ((b.1 ++ [b.2.1 % 30]).map .int))), some x2, some (.val (.int (b.2.1 / 30))), some (.val (.int (x : Nat))), y5], ?_, rfl⟩
        · show (b.1 ++ [b.2.1 % 30]).length + xs.length ≤ _
          simp
          omega
        · simp -implicitDefEqProofs [↓evS_for, ↓evE_lc, ↓evE_lcd, ↓evE_lco, ↓evE_dc, evSs, evS, evE, evEs, evP, evPs, evI, evB, evBor, evBand, evO, evOB, evAnd, bindT, wipeS, bodyF, l_1_0, hc, bm, bf, isL, chgO, opM, z0]
      · refine ⟨(b.1, b.2.1, some (.val (.int (x : Nat)))), ?_, [some x0, some (.own (.lst (b.1.map .int))), some x2, some (.val (.int b.2.1)), some (.val (.int (x : Nat))), y5], ?_, rfl⟩
        · show b.1.length + xs.length ≤ _
          omega
        · simp -implicitDefEqProofs [↓evS_for, ↓evE_lc, ↓evE_lcd, ↓evE_lco, ↓evE_dc, evSs, evS, evE, evEs, evP, evPs, evI, evB, evBor, evBand, evO, evOB, evAnd, bindT, wipeS, bodyF, l_1_0, hc])
    (List.range 40) (acc, cell, none) (by simp)
  exact ⟨acc', y3, y4, by simpa using h1, h2⟩
theorem l_1b (n : Nat) (m : Mu) (x0 : SV) (i : Nat) (hi : i ≤ 100) (y3 : SV) (mixed : Int) (hm : 0 ≤ mixed ∧ mixed < 2147483647) (acc : List Int) (hl : acc.length ≤ 8000) : ∃ (acc' : List Int) (y4 y5 : Option SV), acc'.length ≤ acc.length + 40 ∧ forL [] (bodyF (callN G n) (.nm 4) l_1_1) ((List.range 3).map fun i : Nat => D.int (i : Nat)) [some x0, some (.own (.lst (acc.map .int))), some (.val (.int (i : Nat))), some y3, none, some (.val (.int mixed))] m = .nx [some x0, some (.own (.lst (acc'.map .int))), some (.val (.int (i : Nat))), some y3, y4, y5] m := by
  obtain ⟨⟨acc', y5, y4⟩, ⟨h1, _⟩, h2⟩ := forL_ex (fg := []) (F := bodyF (callN G n) (.nm 4) l_1_1) (fun i : Nat => D.int (i : Nat)) (fun b : List Int × Int × Option SV => [some x0, some (.own (.lst (b.1.map .int))), some (.val (.int (i : Nat))), some y3, b.2.2, some (.val (.int b.2.1))]) (fun _ => m) (fun xs b => b.1.length + xs.length ≤ acc.length + 3 ∧ (0 ≤ b.2.1 ∧ b.2.1 < 2147483647))
    (fun x xs b hb => by
      obtain ⟨g1, g2, g3⟩ := hb
      rw [List.length_cons] at g1
      have z0 : b.1.length < sizeLine := szl2 (n := b.1.length + 1) (by omega)
      have b1 := b_mul (i := b.2.1) (j := b.2.1) (m := m) (.inl ⟨by omega, by omega⟩)
      have b2 := b_mulS (i := (x : Int)) (j := 16807) (m := m) (by decide) (by decide)
      have b3 := b_mod (i := b.2.1 * b.2.1 + (x : Int) * 16807 + (i : Int) + 5) (j := 2147483629) (m := m) (by decide)
      have b4 := b_mod (i := (b.2.1 * b.2.1 + (x : Int) * 16807 + (i : Int) + 5) % 2147483629) (j := 30) (m := m) (by decide)
      have k0 := Int.emod_nonneg (b.2.1 * b.2.1 + (x : Int) * 16807 + (i : Int) + 5) (b := 2147483629) (by decide)
      have k1 := Int.emod_lt_of_pos (b.2.1 * b.2.1 + (x : Int) * 16807 + (i : Int) + 5) (b := 2147483629) (by decide)
      obtain ⟨v, hv⟩ : ∃ v, v = (b.2.1 * b.2.1 + (x : Int) * 16807 + (i : Int) + 5) % 2147483629 := ⟨_, rfl⟩
      rw [← hv] at b3 b4 k0 k1
      refine ⟨(b.1 ++ [v % 30], v, some (.val (.int (x : Nat)))), ⟨?_, k0, by show v < _; omega⟩, [some x0, some (.own (.lst ((b.1 ++ [v % 30]).map .int))), some (.val (.int (i : Nat))), some y3, some (.val (.int (x : Nat))), some (.val (.int v))], ?_, rfl⟩
      · show (b.1 ++ [v % 30]).length + xs.length ≤ _
        simp
        omega
      · simp -implicitDefEqProofs [↓evS_for, ↓evE_lc, ↓evE_lcd, ↓evE_lco, ↓evE_dc, evSs, evS, evE, evEs, evP, evPs, evI, evB, evBor, evBand, evO, evOB, evAnd, bindT, wipeS, bodyF, l_1_1, b1, b2, b3, b4, isL, chgO, opM, z0])
    (List.range 3) (acc, mixed, none) ⟨by simp, hm⟩
  exact ⟨acc', y4, some (.val (.int y5)), by have : acc'.length + 0 ≤ acc.length + 3 := h1; omega, h2⟩
theorem t_1 (n : Nat) (m : Mu) (ns : List Int) (i : Nat) (hi : i < ns.length) (h100 : i ≤ 100) (acc : List Int) (hl : acc.length ≤ 8000) : ∃ (acc' : List Int) (s1 : Sl), acc'.length ≤ acc.length + 40 ∧ bodyF (callN G n) (.nm 2) l_1_2 (.int (i : Nat)) [some (.val (.seq (ns.map .int))), some (.own (.lst (acc.map .int))), none, none, none, none] m = .nx s1 m ∧ wipeS s1 [2, 3, 4, 5] = [some (.val (.seq (ns.map .int))), some (.own (.lst (acc'.map .int))), none, none, none, none] := by
  have ix : opIx (.seq (ns.map .int)) (.int (i : Nat)) m = .ok (.val (.int (ga ns i))) m := ix_seq (by omega) (by simp [hi, ga])
  obtain ⟨cell, hcell⟩ : ∃ c, c = (if ga ns i < 0 then 3 - ga ns i else ga ns i) := ⟨_, rfl⟩
  have pw := pw18 m
  have b1 := b_mulS (i := cell) (j := 69621) (m := m) (by decide) (by decide)
  have b2 := b_mulS (i := (i : Int)) (j := 48271) (m := m) (by decide) (by decide)
  have b3 := b_mod (i := cell * 69621 + (i : Int) * 48271 + 11) (j := 2147483647) (m := m) (by decide)
  have k0 := Int.emod_nonneg (cell * 69621 + (i : Int) * 48271 + 11) (b := 2147483647) (by decide)
  have k1 := Int.emod_lt_of_pos (cell * 69621 + (i : Int) * 48271 + 11) (b := 2147483647) (by decide)
  obtain ⟨v, hv⟩ : ∃ v, v = (cell * 69621 + (i : Int) * 48271 + 11) % 2147483647 := ⟨_, rfl⟩
  rw [← hv] at b3 k0 k1
  have r40 : r62 40 = true := rfl
  have r3 : r62 3 = true := rfl
  have n40 : (40 : Int).toNat = 40 := rfl
  have n3 : (3 : Int).toNat = 3 := rfl
  by_cases hbig : 1000000000000000000 ≤ cell
  · obtain ⟨acc', y3, y4, q1, q2⟩ := l_1a n m (.val (.seq (ns.map .int))) (.val (.int (i : Nat))) none cell acc hl
    refine ⟨acc', [some (.val (.seq (ns.map .int))), some (.own (.lst (acc'.map .int))), some (.val (.int (i : Nat))), some (.val (.int y3)), y4, none], q1, ?_, rfl⟩
    by_cases hneg : ga ns i < 0
    · rw [if_pos hneg] at hcell
      rw [hcell] at hbig q2
      simp -implicitDefEqProofs [↓evS_for, ↓evE_lc, ↓evE_lcd, ↓evE_lco, ↓evE_dc, evSs, evS, evE, evEs, evP, evPs, evI, evB, evBor, evBand, evO, evOB, evAnd, bindT, wipeS, bodyF, l_1_2, ix, hneg, pw, hbig, r40, n40, q2]
    · rw [if_neg hneg] at hcell
      rw [hcell] at hbig q2
      simp -implicitDefEqProofs [↓evS_for, ↓evE_lc, ↓evE_lcd, ↓evE_lco, ↓evE_dc, evSs, evS, evE, evEs, evP, evPs, evI, evB, evBor, evBand, evO, evOB, evAnd, bindT, wipeS, bodyF, l_1_2, ix, hneg, pw, hbig, r40, n40, q2]
  · obtain ⟨acc', y4, y5, q1, q2⟩ := l_1b n m (.val (.seq (ns.map .int))) i h100 (.val (.int cell)) v ⟨k0, k1⟩ acc hl
    refine ⟨acc', [some (.val (.seq (ns.map .int))), some (.own (.lst (acc'.map .int))), some (.val (.int (i : Nat))), some (.val (.int cell)), y4, y5], q1, ?_, rfl⟩
    by_cases hneg : ga ns i < 0
    · rw [if_pos hneg] at hcell
      rw [hcell] at hbig q2 b1 b3
      simp -implicitDefEqProofs [↓evS_for, ↓evE_lc, ↓evE_lcd, ↓evE_lco, ↓evE_dc, evSs, evS, evE, evEs, evP, evPs, evI, evB, evBor, evBand, evO, evOB, evAnd, bindT, wipeS, bodyF, l_1_2, ix, hneg, pw, hbig, b1, b2, b3, r3, n3, q2, hcell]
    · rw [if_neg hneg] at hcell
      rw [hcell] at hbig q2 b1 b3
      simp -implicitDefEqProofs [↓evS_for, ↓evE_lc, ↓evE_lcd, ↓evE_lco, ↓evE_dc, evSs, evS, evE, evEs, evP, evPs, evI, evB, evBor, evBand, evO, evOB, evAnd, bindT, wipeS, bodyF, l_1_2, ix, hneg, pw, hbig, b1, b2, b3, r3, n3, q2, hcell]
theorem c_1 (n : Nat) (m : Mu) (ns : List Int) (hn : ns.length ≤ 63) : ∃ ds : List Int, callN G (n + 1) 1 [.seq (ns.map .int)] m = .ok (.own (.lst (ds.map .int))) m := by
  obtain ⟨acc, ⟨h1, _⟩, h2⟩ := forL_ex (fg := [2, 3, 4, 5]) (F := bodyF (callN G n) (.nm 2) l_1_2) (fun i : Nat => D.int (i : Nat)) (fun b : List Int => [some (.val (.seq (ns.map .int))), some (.own (.lst (b.map .int))), none, none, none, none]) (fun _ => m) (fun xs b => b.length + 40 * xs.length ≤ 2520 ∧ ∀ x ∈ xs, x < ns.length)
    (fun x xs b hb => by
      obtain ⟨g1, g2⟩ := hb
      rw [List.length_cons] at g1
      have hx := g2 x (by simp)
      obtain ⟨acc', s1, t1, t2, t3⟩ := t_1 n m ns x hx (by omega) b (by omega)
      exact ⟨acc', ⟨by omega, fun y hy => g2 y (by simp [hy])⟩, s1, t2, t3⟩)
    (List.range ns.length) [] ⟨by simp; omega, fun x hx => List.mem_range.mp hx⟩
  refine ⟨acc.reverse, ?_⟩
  have hr := r62_nat (n := ns.length) (by omega)
  have hmin : (if (63 : Int) < (ns.length : Int) then (63 : Int) else (ns.length : Int)) = ns.length := if_neg (by omega)
  have hm2 : ¬ ((63 : Int) < (ns.length : Int)) := by omega
  simp only [List.map_nil] at h2
  rw [o_1]
  simp -implicitDefEqProofs [↓evS_for, ↓evE_lc, ↓evE_lcd, ↓evE_lco, ↓evE_dc, evSs, evS, evE, evEs, evP, evPs, evI, evB, evBor, evBand, evO, evOB, evAnd, bindT, wipeS, b_1, hm2, hr, h2, isL, chgO, opM]
end K04
end

section
set_option Elab.async false
set_option linter.all false
set_option maxRecDepth 100000
set_option maxHeartbeats 4000000
namespace K04
open PySem PySem.Spec PyProof.Rows Dp Rm
def dn (P : Nat) (k : Nat) : Nat := (List.range 8).foldl (fun k _ => if 170 < P ^ k then k - 1 else k) k
theorem dn_def (P k : Nat) : dn P k = (List.range 8).foldl (fun k _ => if 170 < P ^ k then k - 1 else k) k := rfl
theorem dn_ok {P k : Nat} (hP : Pr P) (hk : k < 8) : P ^ dn P k ≤ 170 ∧ dn P k < 8 := by
  have : ∀ Q ∈ [2, 3, 5, 7, 11, 13], ∀ j, j < 8 → Q ^ dn Q j ≤ 170 ∧ dn Q j < 8 := by decide +kernel
  refine this P ?_ k hk
  rcases pr_nat hP with rfl | rfl | rfl | rfl | rfl | rfl <;> decide
theorem l_0a (n : Nat) (m : Mu) (x0 x1 x3 x4 x5 : SV) (P : Nat) (hP : Pr P) (k : Nat) (hk : k < 8) :
    ∃ y7, forL [] (bodyF (callN G (n + 1)) (.nm 7) l_0_0) ((List.range 8).map fun i : Nat => D.int (i : Nat)) [some x0, some x1, some (.val (.int (P : Nat))), some x3, some x4, some x5, some (.val (.int (k : Nat))), none, none, none] m = .nx [some x0, some x1, some (.val (.int (P : Nat))), some x3, some x4, some x5, some (.val (.int (dn P k : Nat))), y7, none, none] m := by
  have hq := hP.pos
  rw [dn_def]
  generalize List.range 8 = L8
  obtain ⟨r0, hr0⟩ : ∃ r, r = L8.foldl (fun k _ => if 170 < P ^ k then k - 1 else k) k := ⟨_, rfl⟩
  rw [← hr0]
  obtain ⟨⟨k', y7⟩, ⟨h1, _⟩, key⟩ := forL_ex (fg := []) (F := bodyF (callN G (n + 1)) (.nm 7) l_0_0) (fun i : Nat => D.int (i : Nat)) (fun b : Nat × Option SV => [some x0, some x1, some (.val (.int (P : Nat))), some x3, some x4, some x5, some (.val (.int (b.1 : Nat))), b.2, none, none]) (fun _ => m)
    (fun xs b => xs.foldl (fun k _ => if 170 < P ^ k then k - 1 else k) b.1 = r0 ∧ b.1 < 8)
    (fun i xs b hb => by
      obtain ⟨g1, g2⟩ := hb
      obtain ⟨b, y⟩ := b
      dsimp only at g1 g2
      have c12 := c_12 n (P : Int) (by omega) b (by omega) m
      rw [powI_nat] at c12
      rw [List.foldl_cons] at g1
      by_cases hb2 : 170 < P ^ b
      · rw [if_pos hb2] at g1
        have hb0 : b ≠ 0 := fun z => by
          rw [z] at hb2
          exact absurd hb2 (by simp)
        have e : (b : Int) - 1 = ((b - 1 : Nat) : Int) := by omega
        have hc : (170 : Int) < ((P ^ b : Nat) : Int) := by omega
        generalize P ^ b = N at *
        refine ⟨(b - 1, some (.val (.int (i : Nat)))), ⟨g1, by show b - 1 < 8; omega⟩, [some x0, some x1, some (.val (.int (P : Nat))), some x3, some x4, some x5, some (.val (.int (b - 1 : Nat))), some (.val (.int (i : Nat))), none, none], ?_, rfl⟩
        simp -implicitDefEqProofs [↓evS_for, ↓evE_lc, ↓evE_lcd, ↓evE_lco, ↓evE_dc, evSs, evS, evE, evEs, evP, evPs, evI, evB, evBor, evBand, evO, evOB, evAnd, bindT, wipeS, bodyF, l_0_0, c12, hc, e]
      · rw [if_neg hb2] at g1
        have hc : ¬ ((170 : Int) < ((P ^ b : Nat) : Int)) := by omega
        generalize P ^ b = N at *
        refine ⟨(b, some (.val (.int (i : Nat)))), ⟨g1, g2⟩, [some x0, some x1, some (.val (.int (P : Nat))), some x3, some x4, some x5, some (.val (.int (b : Nat))), some (.val (.int (i : Nat))), none, none], ?_, rfl⟩
        simp -implicitDefEqProofs [↓evS_for, ↓evE_lc, ↓evE_lcd, ↓evE_lco, ↓evE_dc, evSs, evS, evE, evEs, evP, evPs, evI, evB, evBor, evBand, evO, evOB, evAnd, bindT, wipeS, bodyF, l_0_0, c12, hc])
    L8 (k, none) ⟨hr0.symm, hk⟩
  have h1 : k' = r0 := h1
  subst h1
  exact ⟨y7, key⟩
theorem deg_bd {a : Int} {s : Int} {P : Int} (hs : 0 ≤ s) (hP : 2 ≤ P) : 0 ≤ a % (s * (P - 1) + 1) ∧ a % (s * (P - 1) + 1) ≤ s * (P - 1) := by
  have h0 : 0 ≤ s * (P - 1) := Int.mul_nonneg hs (by omega)
  have h1 := Int.emod_nonneg a (show s * (P - 1) + 1 ≠ 0 by omega)
  have h2 := Int.emod_lt_of_pos a (show 0 < s * (P - 1) + 1 by omega)
  omega
theorem t_0b (n : Nat) (P : Nat) (hP : Pr P) (s : Nat) (hN : P ^ s ≤ 170) (hs : s ≤ 90) (x0 x3 x5 : SV) (y4 y7 : Option SV) (i : Nat) (ds : List Int) :
    ∃ (d : Int) (ds' : List Int) (s1 : Sl), bodyF (callN G (n + 10)) (.nm 7) l_0_1 (.int (i : Nat)) [some x0, some (.val (.ref 0)), some (.val (.int (P : Nat))), some x3, y4, some x5, some (.val (.int (s : Nat))), y7, some (.val (pl (ptsI P s))), none] (dw ds) = .nx s1 (dw ds') ∧
      wipeS s1 [] = [some x0, some (.val (.ref 0)), some (.val (.int (P : Nat))), some x3, some (.val (.int d)), some x5, some (.val (.int (s : Nat))), some (.val (.int (i : Nat))), some (.val (pl (ptsI P s))), none] := by
  have hq := hP.pos
  have hq1 : ((P - 1 : Nat) : Int) = (P : Int) - 1 := by omega
  obtain ⟨v, ds1, v0, v1, v2⟩ := c_3 (n + 9) 30 (by decide) ds []
  have bm := b_mulS (i := (s : Int)) (j := (P : Int) - 1) (m := dw ds1) (by omega) (by omega)
  have h0 : 0 ≤ (s : Int) * ((P : Int) - 1) := Int.mul_nonneg (by omega) (by omega)
  have bd := b_mod (i := v + (i : Int)) (j := (s : Int) * ((P : Int) - 1) + 1) (m := dw ds1) (by omega)
  obtain ⟨d0, d1⟩ := deg_bd (a := v + (i : Int)) (s := (s : Int)) (P := (P : Int)) (by omega) hq.1
  generalize (v + (i : Int)) % ((s : Int) * ((P : Int) - 1) + 1) = d at *
  have c4 := c_4 (n + 7) (P : Int) hP (s : Int) d (by omega) ⟨d0, d1⟩ (dw ds1)
  have c11 := c_11 (n + 8) (P : Int) hP (s : Int) d (by omega) ⟨d0, d1⟩ (dw ds1)
  obtain ⟨dd, hdd⟩ : ∃ k : Nat, d = (k : Int) := ⟨d.toNat, by omega⟩
  have hle : dd ≤ s * (P - 1) := by
    have : (dd : Int) ≤ ((s * (P - 1) : Nat) : Int) := by rw [Int.natCast_mul, hq1, ← hdd]; exact d1
    omega
  have c14 := c_14 (n + 1) (dw ds1) P hP s hN hs dd hle
  rw [← hdd] at c14
  refine ⟨d, ds1, [some x0, some (.val (.ref 0)), some (.val (.int (P : Nat))), some x3, some (.val (.int d)), some x5, some (.val (.int (s : Nat))), some (.val (.int (i : Nat))), some (.val (pl (ptsI P s))), none], ?_, rfl⟩
  generalize fewI (P : Int) s d = fe at *
  generalize (s : Int) * ((P : Int) - 1) = top at *
  generalize ptsI P s = pts at *
  simp -implicitDefEqProofs [↓evS_for, ↓evE_lc, ↓evE_lcd, ↓evE_lco, ↓evE_dc, evSs, evS, evE, evEs, evP, evPs, evI, evB, evBor, evBand, evO, evOB, evAnd, bindT, wipeS, bodyF, l_0_1, v2, bm, bd, c4, c11, c14]
theorem law_pure (ns : List Int) (hn : ns.length ≤ 63) : ∃ m, callN G 16 0 [.seq (ns.map .int)] [] = .ok (.val (.bl true)) m := by
  obtain ⟨ds, c1⟩ := c_1 14 [] ns hn
  obtain ⟨p, ds1, hp, c2⟩ := c_2 13 ds []
  obtain ⟨P, rfl⟩ : ∃ k : Nat, p = (k : Int) := ⟨p.toNat, by have := hp.pos; omega⟩
  have hq := hp.pos
  obtain ⟨a1, ds2, a10, a11, a12⟩ := c_3 14 3 (by decide) ds1 []
  obtain ⟨a2, ds3, a20, a21, a22⟩ := c_3 14 30 (by decide) ds2 []
  obtain ⟨a3, ds4, a30, a31, a32⟩ := c_3 14 30 (by decide) ds3 []
  obtain ⟨a4, ds5, a40, a41, a42⟩ := c_3 14 30 (by decide) ds4 []
  obtain ⟨a5, ds6, a50, a51, a52⟩ := c_3 14 2 (by decide) ds5 []
  have f1 := b_mulS (i := 30) (j := a1) (m := dw ds2) (by omega) (by omega)
  have f2 := b_mod (i := 3 + 30 * a1 + a2) (j := 91) (m := dw ds3) (by decide)
  have far0 := Int.emod_nonneg (3 + 30 * a1 + a2) (b := 91) (by decide)
  have far1 := Int.emod_lt_of_pos (3 + 30 * a1 + a2) (b := 91) (by decide)
  generalize (3 + 30 * a1 + a2) % 91 = far at *
  have f3 := b_mulS (i := 30) (j := a4) (m := dw ds5) (by omega) (by omega)
  have f4 := b_mulS (i := 900) (j := a5) (m := dw ds6) (by omega) (by omega)
  have f5 := b_mulS (i := far) (j := (P : Int) - 1) (m := dw ds6) (by omega) (by omega)
  have h0 : 0 ≤ far * ((P : Int) - 1) := Int.mul_nonneg far0 (by omega)
  have f6 := b_mod (i := a3 + 30 * a4 + 900 * a5) (j := far * ((P : Int) - 1) + 1) (m := dw ds6) (by omega)
  obtain ⟨d0, d1⟩ := deg_bd (a := a3 + 30 * a4 + 900 * a5) (s := far) (P := (P : Int)) far0 hq.1
  generalize (a3 + 30 * a4 + 900 * a5) % (far * ((P : Int) - 1) + 1) = deg at *
  have g4 := c_4 12 (P : Int) hp far deg (by omega) ⟨d0, d1⟩ (dw ds6)
  have g11 := c_11 13 (P : Int) hp far deg (by omega) ⟨d0, d1⟩ (dw ds6)
  have g10 := c_10 14 (fewI P far deg) (dw ds6)
  generalize fewI (P : Int) far deg = told at *
  obtain ⟨a6, ds7, a60, a61, a62⟩ := c_3 14 8 (by decide) ds6 []
  have f7 := b_mod (i := 2 + a6) (j := 8) (m := dw ds7) (by decide)
  have sz0 := Int.emod_nonneg (2 + a6) (b := 8) (by decide)
  have sz1 := Int.emod_lt_of_pos (2 + a6) (b := 8) (by decide)
  obtain ⟨k, hk⟩ : ∃ k : Nat, (2 + a6) % 8 = (k : Int) := ⟨((2 + a6) % 8).toNat, by omega⟩
  rw [hk] at f7
  have hk8 : k < 8 := by omega
  obtain ⟨y7, lp1⟩ := l_0a 14 (dw ds7) (.val (.seq (ns.map .int))) (.val (.ref 0)) (.val (.int far)) (.val (.int deg)) (.val (.int told)) P hp k hk8
  obtain ⟨hN, hs8⟩ := dn_ok hp hk8
  generalize dn P k = s at *
  have c13 := c_13 14 (dw ds7) P (by omega) s (by omega) (by omega)
  obtain ⟨⟨y4, z7, ds8⟩, hy4, lp2⟩ := forL_ex (fg := []) (F := bodyF (callN G 15) (.nm 7) l_0_1) (fun i : Nat => D.int (i : Nat)) (fun b : Option SV × Option SV × List Int => [some (.val (.seq (ns.map .int))), some (.val (.ref 0)), some (.val (.int (P : Nat))), some (.val (.int far)), b.1, some (.val (.int told)), some (.val (.int (s : Nat))), b.2.1, some (.val (pl (ptsI P s))), none]) (fun b => dw b.2.2)
    (fun xs b => True)
    (fun i xs b _ => by
      obtain ⟨d, ds', s1, q1, q2⟩ := t_0b 5 P hp s hN (by omega) (.val (.seq (ns.map .int))) (.val (.int far)) (.val (.int told)) b.1 b.2.1 i b.2.2
      exact ⟨(some (.val (.int d)), some (.val (.int (i : Nat))), ds'), trivial, s1, q1, q2⟩)
    (List.range 2) (some (.val (.int deg)), y7, ds7) trivial
  dsimp only at lp2
  obtain ⟨dd, plc, ds9, e0, e1, e2, c36⟩ := c_36 11 P hp s (by omega) ds8
  have h4 := c_4 12 (P : Int) hp (s : Int) dd (by omega) ⟨e0, e1⟩ (dw ds9)
  have hlt : ¬ (plc < fewI (P : Int) s dd) := by omega
  generalize fewI (P : Int) s dd = fe at *
  obtain ⟨ds10, c39⟩ := c_39 3 P hp s hN (by omega) ds9
  have r8 : r62 8 = true := rfl
  have n8 : (8 : Int).toNat = 8 := rfl
  have r2 : r62 2 = true := rfl
  have n2 : (2 : Int).toNat = 2 := rfl
  refine ⟨dw ds10, ?_⟩
  generalize far * ((P : Int) - 1) = ft at *
  generalize ptsI P s = pts at *
  rw [o_0]
  simp -implicitDefEqProofs [↓evS_for, ↓evE_lc, ↓evE_lcd, ↓evE_lco, ↓evE_dc, evSs, evS, evE, evEs, evP, evPs, evI, evB, evBor, evBand, evO, evOB, evAnd, bindT, wipeS, b_0, c1, c2, a12, a22, a32, a42, a52, f1, f2, f3, f4, f5, f6, g4, g10, g11, a62, f7, r8, n8, lp1, c13, r2, n2, lp2, c36, h4, hlt, c39]
end K04
end

section
set_option Elab.async false
set_option linter.all false
set_option maxRecDepth 100000
set_option maxHeartbeats 0
namespace K04
open PySem PySem.Spec PyProof.Rows L2 Dp
theorem xt_BadPrime : XT x_BadPrime := ⟨_, _, _, _, _, _, _, _, _, _, _, _, rfl, fun _ _ _ _ _ _ _ us hl => match us, hl with | [_, _], _ => rfl, fun _ _ _ _ => ⟨rfl, rfl, rfl, ⟨_, rfl⟩, rfl⟩⟩
theorem xt_BadNumber : XT x_BadNumber := ⟨_, _, _, _, _, _, _, _, _, _, _, _, rfl, fun _ _ _ _ _ _ _ us hl => match us, hl with | [_, _], _ => rfl, fun _ _ _ _ => ⟨rfl, rfl, rfl, ⟨_, rfl⟩, rfl⟩⟩
theorem xt_BadPoly : XT x_BadPoly := ⟨_, _, _, _, _, _, _, _, _, _, _, _, rfl, fun _ _ _ _ _ _ _ us hl => match us, hl with | [_, _], _ => rfl, fun _ _ _ _ => ⟨rfl, rfl, rfl, ⟨_, rfl⟩, rfl⟩⟩
theorem xt_TooMany : XT x_TooMany := ⟨_, _, _, _, _, _, _, _, _, _, _, _, rfl, fun _ _ _ _ _ _ _ us hl => match us, hl with | [_, _], _ => rfl, fun _ _ _ _ => ⟨rfl, rfl, rfl, ⟨_, rfl⟩, rfl⟩⟩
theorem xt_all : ∀ d ∈ xds, xsB d = true ∧ XT d := by
  intro d hd
  have hd : d ∈ [x_BadPrime, x_BadNumber, x_BadPoly, x_TooMany] := hd
  simp only [List.mem_cons, List.not_mem_nil, or_false] at hd
  rcases hd with rfl | rfl | rfl | rfl
  · exact ⟨by decide +kernel, xt_BadPrime⟩
  · exact ⟨by decide +kernel, xt_BadNumber⟩
  · exact ⟨by decide +kernel, xt_BadPoly⟩
  · exact ⟨by decide +kernel, xt_TooMany⟩
end K04
end

section
set_option Elab.async false
set_option linter.all false
set_option maxRecDepth 100000
set_option maxHeartbeats 0
namespace K04
open PySem PySem.Spec PyProof.Rows L2 Dp
theorem facts (law_pure : ∀ ns : List Int, ns.length ≤ 63 → ∃ m, callN G 16 0 [.seq (ns.map .int)] [] = .ok (.val (.bl true)) m) {P : Program} (hP : P = RO.prog) {w : World} {K : PySem.W.Frag} {h : Heap} {mg : Str → Option Value} {f : Addr} (X : K.In h) (N : h.Ns mainGlobals mg) (hfa : mg ("law" : Str) = some (.ref f)) (c : SaysX ex G dfs fil xds K) :
    ∃ fd : FuncData, (∀ (s : Shared) (v : Value), BindsTo s fd ⟨[v], []⟩ [("script", v)]) ∧ ∀ base : Heap, K.In base → base.Ns mainGlobals mg → FnOk P w K mg base CXA (2 * 16) f fd ["script"] (spLaw K 63) := by
  have fx := facts_fx X N c.p.facts.1
  obtain ⟨fd, F⟩ := c.p.def_ 0 (d := d_0) rfl
  have e : f = fAw K f_0.at_ := by
    have q := fx.glo f_0 (List.mem_of_getElem? (i := 0) rfl) rfl
    have e2 := hfa.symm.trans q
    cases e2
    rfl
  subst e
  have b := FunD.bindsA (ps := ["script"]) F fun _ _ _ _ _ _ us hl => match us, hl with | [_], _ => rfl
  have hB := m_0
  unfold defB at hB
  simp only [Bool.and_eq_true, decide_eq_true_eq] at hB
  obtain ⟨h1, h2, h3, h4⟩ := hB
  have ef : P.main.file = fil := by rw [hP]; kernel_rfl
  rw [← ef] at c
  have xx : Xx G P K mg := c.xx X N rfl xt_all (by rw [hP]; kernel_rfl)
  rw [ef] at c
  exact ⟨fd, fun s v => b s [v] rfl, fun base _ _ => law_ok (most := 63) fx xx (fd_all c.p) (n := 16) (k := 0) (f := f_0) rfl rfl law_pure (by decide) F (scope_ok h3) h4⟩
end K04
open PySem PySem.W PySem.Calls PyProof.Rows
theorem k04_holds (law_pure : ∀ ns : List Int, ns.length ≤ 63 → ∃ m, Dp.callN K04.G 16 0 [.seq (ns.map .int)] [] = .ok (.val (.bl true)) m) : PySem.Challenge.rw_onlyfilling_k04_fewest_points.Holds := by
  w_on; o_law
  refine HandSHeadRun.head_any (r := OpenLaw.row PySem.Challenge.rw_onlyfilling_k04_fewest_points) (q := view (OpenLaw.row PySem.Challenge.rw_onlyfilling_k04_fewest_points).prog [51]) (H := K04.hk) (ob := K04.ob) (M := 4000) (loose := K04.loose1 ++ K04.loose2) (d := HandSHeadRun.topDef (OpenLaw.row PySem.Challenge.rw_onlyfilling_k04_fewest_points).prog 51) (kwd := []) K04.ob_eq
    (by kernel_rfl) (fun s => by kernel_rfl) K04.run (by kernel_rfl) (by kernel_rfl) (by kernel_rfl) (by rfl) (by first | assumption | decide +kernel) (by decide +kernel) ⟨rfl, rfl, rfl, rfl, rfl, by decide +kernel⟩ ?hw ?hc
  case hw => w_witness2
  case hc =>
    refine L2.walk_ofE (l := PySem.Challenge.rw_onlyfilling_k04_fewest_points) (n := 63) (k := 2 * 16) (x := "script") (CX := Dp.CXA) rfl (by decide) (by kernel_rfl) ⟨rfl, by decide, by decide⟩ ?F Dp.cxa_no
    intro w mg fa h Y N hmg0
    obtain ⟨K, KX, c⟩ := Y
    have hmg : mg ("law" : PySem.Str) = some (.ref fa) := by
      have e : (HandSHeadRun.topDef (OpenLaw.row PySem.Challenge.rw_onlyfilling_k04_fewest_points).prog 51).name = ("law" : PySem.Str) := by kernel_rfl
      rw [← e]
      exact hmg0
    obtain ⟨fd, hb, hF⟩ := K04.facts law_pure (P := (PySem.Challenge.rw_onlyfilling_k04_fewest_points).prog) (by first | rfl | kernel_rfl) (w := w) KX N hmg c
    exact ⟨K, fd, Dp.spLaw K 63, KX, hb, fun H a ns hl _ hS => ⟨a, ns, rfl, hl, hS, fun _ => rfl⟩, hF⟩
end

section
theorem PySem.Challenge.cw_onlyfilling_k04_fewest_points_holds : PySem.Challenge.rw_onlyfilling_k04_fewest_points.Holds := by
  exact k04_holds K04.law_pure
end
