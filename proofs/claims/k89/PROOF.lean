import PyProof.Rows.All
import PySem.Challenge.RW_onlyfilling_k89_mends_counted
import Wide.All
import OpenK.AllK
import Wide.FinOn
import HandS.ForMost
import HandS.ForExc
import HandS.Defaults
import HandS.Head2
import HandS.HeadHook2
import HandS.HeadEnd
import HandS.IsInst
import HandS.Zip
import HandS.Deep
import HandS.Walk
import HandS.Rev
import HandS.RevRange
import HandS.SortKw
import HandS.SortInts
import HandS.TupAny
import HandS.TupMul
import HandS.DictComp
import HandS.DictTup
import HandS.CallSlots
import KE.GoesEnum
import HandS.TryOnly
import KE.KExcSuper
import HandS.ExcInit
import HandS.TryMany
import HandS.ExcField
section
set_option Elab.async false
set_option linter.all false
set_option maxRecDepth 100000
/-! The deep layer, part 1: data, worlds, what holds of a heap. -/
namespace Dp
open PySem PySem.Spec PyProof.Rows L2

/-- deep data: ref i is the i-th shared cell, gl x what the module's name x holds -/
inductive D where
  | non | bl (b : Bool) | int (i : Int) | str (x : Str)
  | tup (ds : List D) | lst (ds : List D) | seq (ds : List D)
  | dk (ks : List Key) (ds : List D) | dt (ks : List (List Key)) (ds : List D)
  | ins (c : Str) (ns : List Str) (ds : List D)
  | ref (i : Nat) | gl (x : Str)
deriving Inhabited
/-- a container that may still be changed -/
inductive Cell where
  | lst (ds : List D)
  | dk (ks : List Key) (ds : List D) | dt (ks : List (List Key)) (ds : List D)
  | ins (c : Str) (ns : List Str) (ds : List D)
deriving Inhabited
def Cell.fz : Cell → D
  | .lst ds => .lst ds
  | .dk ks ds => .dk ks ds
  | .dt ks ds => .dt ks ds
  | .ins c ns ds => .ins c ns ds
/-- what a slot, an expression holds: a value, or a container of its own -/
inductive SV where
  | val (d : D) | own (c : Cell)
deriving Inhabited
def SV.fz : SV → D
  | .val d => d
  | .own c => c.fz
abbrev Sl := List (Option SV)
abbrev Mu := List Cell
/-- an exception: its class, the fields of its dict -/
structure Exn where
  c : Str
  ns : List Str
  ds : List D
inductive R (α : Type) where
  | ok (a : α) (m : Mu)
  | ex (x : Exn) (m : Mu)
  | bad
def R.bind {α β : Type} (r : R α) (f : α → Mu → R β) : R β := match r with
  | .ok a m => f a m
  | .ex x m => .ex x m
  | .bad => .bad
/-- where no exception may leave -/
def R.bindN {α β : Type} (r : R α) (f : α → Mu → R β) : R β := match r with
  | .ok a m => f a m
  | _ => .bad
@[simp] theorem R.bindN_ok {α β : Type} (a : α) (m : Mu) (f : α → Mu → R β) : (R.ok a m).bindN f = f a m := rfl
@[simp] theorem R.bind_ok {α β : Type} (a : α) (m : Mu) (f : α → Mu → R β) : (R.ok a m).bind f = f a m := rfl
@[simp] theorem R.bind_ex {α β : Type} (x : Exn) (m : Mu) (f : α → Mu → R β) : (R.ex x m : R α).bind f = .ex x m := rfl
@[simp] theorem R.bind_bad {α β : Type} (f : α → Mu → R β) : (R.bad : R α).bind f = .bad := rfl

/-! ### worlds: the part of the heap that never changes again, the shared cells' addresses -/
structure Wd where
  Hf : Hp
  th : List Addr
structure Le (W W' : Wd) : Prop where
  sub : Same W.Hf W'.Hf
  th : ∃ more, W'.th = W.th ++ more
theorem Le.refl (W : Wd) : Le W W := ⟨Same.refl _, [], by simp⟩
theorem Le.trans {W W1 W2 : Wd} (a : Le W W1) (b : Le W1 W2) : Le W W2 := by
  obtain ⟨m1, e1⟩ := a.th
  obtain ⟨m2, e2⟩ := b.th
  exact ⟨a.sub.trans b.sub, m1 ++ m2, by rw [e2, e1, List.append_assoc]⟩
theorem Le.at {W W' : Wd} (l : Le W W') {i : Nat} {a : Addr} (h : W.th[i]? = some a) : W'.th[i]? = some a := by
  obtain ⟨m, e⟩ := l.th
  have hi := (List.getElem?_eq_some_iff.mp h).1
  rw [e, List.getElem?_append_left hi]
  exact h
theorem sqT_same {K : PySem.W.Frag} {H H' : Hp} {a : Addr} {xs : List V} (e : Same H H') (h : SqT K H a xs) : SqT K H' a xs := by
  rcases h with (h | ⟨o, h⟩) | h
  · exact .inl (.inl (e _ _ h))
  · exact .inl (.inr ⟨o, e _ _ h⟩)
  · exact .inr h
section
variable (K : PySem.W.Frag) (mg : Str → Option Value)
mutual
/-- the value v is the data d in the world W -/
def Rep (W : Wd) : D → V → Prop
  | .non, v => v = .non
  | .bl b, v => v = .bl b
  | .int i, v => v = .int i
  | .str x, v => v = .str x
  | .tup ds, v => ∃ a vs, v = .ref a ∧ W.Hf a = some (.tup vs) ∧ Reps W ds vs
  | .lst ds, v => ∃ a vs, v = .ref a ∧ W.Hf a = some (.lst vs) ∧ Reps W ds vs
  | .seq ds, v => ∃ a vs, v = .ref a ∧ SqL K W.Hf a vs ∧ Reps W ds vs
  | .dk ks ds, v => ∃ a vs, v = .ref a ∧ W.Hf a = some (.dK (ks.zip vs)) ∧ ks.length = ds.length ∧ Reps W ds vs
  | .dt ks ds, v => ∃ a vs, v = .ref a ∧ W.Hf a = some (.dT (ks.zip vs)) ∧ ks.length = ds.length ∧ Reps W ds vs
  | .ins c ns ds, v => ∃ a dx vs, v = .ref a ∧ W.Hf a = some (.ins (He.ga K c) dx (ns.zip vs)) ∧ ns.length = ds.length ∧ Reps W ds vs
  | .ref i, v => ∃ a, v = .ref a ∧ W.th[i]? = some a
  | .gl x, v => ∃ a, v = .ref a ∧ SqT K (fun _ => none) a [] ∧ mg x = mg x
def Reps (W : Wd) : List D → List V → Prop
  | [], vs => vs = []
  | d :: ds, vs => ∃ v r, vs = v :: r ∧ Rep W d v ∧ Reps W ds r
end
end
section
variable {K : PySem.W.Frag} {mg : Str → Option Value} {W W' : Wd}
mutual
theorem Rep.mono (l : Le W W') : ∀ (d : D) (v : V), Rep K mg W d v → Rep K mg W' d v
  | .non, _, h => h
  | .bl _, _, h => h
  | .int _, _, h => h
  | .str _, _, h => h
  | .tup ds, _, ⟨a, vs, e, h, r⟩ => ⟨a, vs, e, l.sub _ _ h, Reps.mono l ds vs r⟩
  | .lst ds, _, ⟨a, vs, e, h, r⟩ => ⟨a, vs, e, l.sub _ _ h, Reps.mono l ds vs r⟩
  | .seq ds, _, ⟨a, vs, e, h, r⟩ => ⟨a, vs, e, l.sub.seq h, Reps.mono l ds vs r⟩
  | .dk _ ds, _, ⟨a, vs, e, h, n, r⟩ => ⟨a, vs, e, l.sub _ _ h, n, Reps.mono l ds vs r⟩
  | .dt _ ds, _, ⟨a, vs, e, h, n, r⟩ => ⟨a, vs, e, l.sub _ _ h, n, Reps.mono l ds vs r⟩
  | .ins _ _ ds, _, ⟨a, dx, vs, e, h, n, r⟩ => ⟨a, dx, vs, e, l.sub _ _ h, n, Reps.mono l ds vs r⟩
  | .ref _, _, ⟨a, e, h⟩ => ⟨a, e, l.at h⟩
  | .gl _, _, h => h
theorem Reps.mono (l : Le W W') : ∀ (ds : List D) (vs : List V), Reps K mg W ds vs → Reps K mg W' ds vs
  | [], _, h => h
  | d :: ds, _, ⟨v, r, e, h, t⟩ => ⟨v, r, e, Rep.mono l d v h, Reps.mono l ds r t⟩
end
theorem Reps.length : ∀ {ds : List D} {vs : List V}, Reps K mg W ds vs → ds.length = vs.length
  | [], _, h => by cases h; rfl
  | _ :: ds, _, ⟨v, r, e, _, t⟩ => by rw [e, List.length_cons, List.length_cons, Reps.length t]
theorem Reps.get : ∀ {ds : List D} {vs : List V} {i : Nat} {d : D}, Reps K mg W ds vs → ds[i]? = some d → ∃ v, vs[i]? = some v ∧ Rep K mg W d v
  | [], _, _, _, _, h => by simp at h
  | _ :: _, _, 0, _, ⟨v, r, e, h, _⟩, hd => by
    simp at hd
    subst hd e
    exact ⟨v, rfl, h⟩
  | _ :: ds, _, i + 1, _, ⟨v, r, e, _, t⟩, hd => by
    subst e
    obtain ⟨w, h1, h2⟩ := Reps.get (i := i) t (by simpa using hd)
    exact ⟨w, by simpa using h1, h2⟩
theorem Reps.getV : ∀ {ds : List D} {vs : List V} {i : Nat} {v : V}, Reps K mg W ds vs → vs[i]? = some v → ∃ d, ds[i]? = some d ∧ Rep K mg W d v
  | [], _, _, _, h, hv => by
    cases h
    simp at hv
  | d :: _, _, 0, _, ⟨v, r, e, h, _⟩, hv => by
    subst e
    simp at hv
    subst hv
    exact ⟨d, rfl, h⟩
  | _ :: ds, _, i + 1, _, ⟨v, r, e, _, t⟩, hv => by
    subst e
    obtain ⟨w, h1, h2⟩ := Reps.getV (i := i) t (by simpa using hv)
    exact ⟨w, by simpa using h1, h2⟩
theorem Reps.append : ∀ {ds es : List D} {vs us : List V}, Reps K mg W ds vs → Reps K mg W es us → Reps K mg W (ds ++ es) (vs ++ us)
  | [], _, _, _, h, k => by
    cases h
    exact k
  | d :: ds, _, _, _, ⟨v, r, e, h, t⟩, k => by
    subst e
    exact ⟨v, _, rfl, h, Reps.append t k⟩
theorem Reps.one {d : D} {v : V} (h : Rep K mg W d v) : Reps K mg W [d] [v] := ⟨v, [], rfl, h, rfl⟩
theorem Reps.cons {d : D} {v : V} {ds : List D} {vs : List V} (h : Rep K mg W d v) (t : Reps K mg W ds vs) : Reps K mg W (d :: ds) (v :: vs) := ⟨v, vs, rfl, h, t⟩
theorem Reps.take : ∀ {ds : List D} {vs : List V} (n : Nat), Reps K mg W ds vs → Reps K mg W (ds.take n) (vs.take n)
  | _, _, 0, _ => by
    rw [List.take_zero, List.take_zero]
    rfl
  | [], _, n + 1, h => by
    cases h
    rfl
  | _ :: ds, _, n + 1, ⟨v, r, e, h, t⟩ => by
    subst e
    exact ⟨v, _, rfl, h, Reps.take n t⟩
theorem Reps.drop : ∀ {ds : List D} {vs : List V} (n : Nat), Reps K mg W ds vs → Reps K mg W (ds.drop n) (vs.drop n)
  | _, _, 0, h => h
  | [], _, n + 1, h => by
    cases h
    rfl
  | _ :: ds, _, n + 1, ⟨v, r, e, h, t⟩ => by
    subst e
    exact Reps.drop n t
theorem Reps.reverse : ∀ {ds : List D} {vs : List V}, Reps K mg W ds vs → Reps K mg W ds.reverse vs.reverse
  | [], _, h => by
    cases h
    rfl
  | _ :: ds, _, ⟨v, r, e, h, t⟩ => by
    subst e
    rw [List.reverse_cons, List.reverse_cons]
    exact (Reps.reverse t).append (Reps.one h)
theorem Reps.set : ∀ {ds : List D} {vs : List V} (i : Nat) {d : D} {v : V}, Reps K mg W ds vs → Rep K mg W d v → Reps K mg W (ds.set i d) (vs.set i v)
  | [], _, _, _, _, h, _ => by
    cases h
    rfl
  | _ :: ds, _, 0, _, _, ⟨v, r, e, _, t⟩, k => by
    subst e
    exact ⟨_, _, rfl, k, t⟩
  | _ :: ds, _, i + 1, _, _, ⟨v, r, e, h, t⟩, k => by
    subst e
    exact ⟨_, _, rfl, h, Reps.set i t k⟩
theorem Reps.dropLast {ds : List D} {vs : List V} (h : Reps K mg W ds vs) : Reps K mg W ds.dropLast vs.dropLast := by
  rw [List.dropLast_eq_take, List.dropLast_eq_take, h.length]
  exact h.take _
theorem Reps.nil : Reps K mg W [] [] := rfl
end

/-! ### cells -/
section
variable (K : PySem.W.Frag) (mg : Str → Option Value)
/-- at a, in the heap G, the container c -/
def CellAt (W : Wd) (G : Hp) (a : Addr) : Cell → Prop
  | .lst ds => ∃ vs, G a = some (.lst vs) ∧ Reps K mg W ds vs
  | .dk ks ds => ∃ vs, G a = some (.dK (ks.zip vs)) ∧ ks.length = ds.length ∧ Reps K mg W ds vs
  | .dt ks ds => ∃ vs, G a = some (.dT (ks.zip vs)) ∧ ks.length = ds.length ∧ Reps K mg W ds vs
  | .ins c ns ds => ∃ dx vs, G a = some (.ins (He.ga K c) dx (ns.zip vs)) ∧ ns.length = ds.length ∧ Reps K mg W ds vs
end
section
variable {K : PySem.W.Frag} {mg : Str → Option Value} {W W' : Wd} {G G' : Hp} {a : Addr} {c : Cell}
theorem CellAt.mono (h : CellAt K mg W G a c) (l : Le W W') (k : ∀ o, G a = some o → G' a = some o) : CellAt K mg W' G' a c := by
  cases c with
  | lst ds => obtain ⟨vs, e, r⟩ := h; exact ⟨vs, k _ e, Reps.mono l _ _ r⟩
  | dk ks ds => obtain ⟨vs, e, n, r⟩ := h; exact ⟨vs, k _ e, n, Reps.mono l _ _ r⟩
  | dt ks ds => obtain ⟨vs, e, n, r⟩ := h; exact ⟨vs, k _ e, n, Reps.mono l _ _ r⟩
  | ins c ns ds => obtain ⟨dx, vs, e, n, r⟩ := h; exact ⟨dx, vs, k _ e, n, Reps.mono l _ _ r⟩
theorem CellAt.ex (h : CellAt K mg W G a c) : ∃ o, G a = some o := by
  cases c with
  | lst ds => obtain ⟨vs, e, r⟩ := h; exact ⟨_, e⟩
  | dk ks ds => obtain ⟨vs, e, n, r⟩ := h; exact ⟨_, e⟩
  | dt ks ds => obtain ⟨vs, e, n, r⟩ := h; exact ⟨_, e⟩
  | ins c ns ds => obtain ⟨dx, vs, e, n, r⟩ := h; exact ⟨_, e⟩
theorem CellAt.ntup (h : CellAt K mg W G a c) {o : HO} (e : G a = some o) : ∀ xs, o ≠ .tup xs := fun xs z => by
  subst z
  cases c with
  | lst ds => obtain ⟨vs, e2, r⟩ := h; rw [e] at e2; cases e2
  | dk ks ds => obtain ⟨vs, e2, n, r⟩ := h; rw [e] at e2; cases e2
  | dt ks ds => obtain ⟨vs, e2, n, r⟩ := h; rw [e] at e2; cases e2
  | ins c ns ds => obtain ⟨dx, vs, e2, n, r⟩ := h; rw [e] at e2; cases e2
theorem CellAt.rep (h : CellAt K mg W W.Hf a c) : Rep K mg W c.fz (.ref a) := by
  cases c with
  | lst ds => obtain ⟨vs, e, r⟩ := h; exact ⟨a, vs, rfl, e, r⟩
  | dk ks ds => obtain ⟨vs, e, n, r⟩ := h; exact ⟨a, vs, rfl, e, n, r⟩
  | dt ks ds => obtain ⟨vs, e, n, r⟩ := h; exact ⟨a, vs, rfl, e, n, r⟩
  | ins c ns ds => obtain ⟨dx, vs, e, n, r⟩ := h; exact ⟨a, dx, vs, rfl, e, n, r⟩
end

/-! ### what holds of a heap -/
section
variable (K : PySem.W.Frag) (mg : Str → Option Value)
structure St0 (W : Wd) (m : Mu) (H : Hp) : Prop where
  sub : Same W.Hf H
  len : W.th.length = m.length
  cell : ∀ (i : Nat) (a : Addr) (c : Cell), W.th[i]? = some a → m[i]? = some c → CellAt K mg W H a c
  nf : ∀ a, a ∈ W.th → W.Hf a = none
  nd : W.th.Nodup
/-- a container of one's own at a -/
structure Own (W : Wd) (H : Hp) (a : Addr) (c : Cell) : Prop where
  at_ : CellAt K mg W H a c
  nf : W.Hf a = none
  nt : a ∉ W.th
structure Holds (W : Wd) (s : Sl) (m : Mu) (σ : L2.St) (H : Hp) : Prop extends St0 K mg W m H where
  slen : s.length = σ.length
  slot : ∀ (i : Nat) (d : D), s[i]? = some (some (.val d)) → ∃ v, σ[i]? = some (some v) ∧ Rep K mg W d v
  own : ∀ (i : Nat) (c : Cell), s[i]? = some (some (.own c)) → ∃ a, σ[i]? = some (some (.ref a)) ∧ Own K mg W H a c
  dis : ∀ (i j : Nat) (c c' : Cell) (a : Addr), s[i]? = some (some (.own c)) → s[j]? = some (some (.own c')) → σ[i]? = some (some (.ref a)) → σ[j]? = some (some (.ref a)) → i = j
end
/-- from (W, H) to (W', H'): nothing but the shared cells has changed -/
structure Step (W : Wd) (H : Hp) (W' : Wd) (H' : Hp) : Prop where
  sub : Same W.Hf W'.Hf
  th : ∃ more, W'.th = W.th ++ more ∧ ∀ a, a ∈ more → H a = none
  keep : ∀ b o, H b = some o → b ∉ W.th → H' b = some o
  nofz : ∀ b o, H b = some o → W.Hf b = none → b ∉ W.th → (∀ xs, o ≠ .tup xs) → W'.Hf b = none
section
variable {K : PySem.W.Frag} {mg : Str → Option Value} {W W1 W2 : Wd} {H H1 H2 : Hp} {m m1 m2 : Mu} {s : Sl} {σ : L2.St}
theorem Step.le (p : Step W H W1 H1) : Le W W1 := by
  obtain ⟨more, e, _⟩ := p.th
  exact ⟨p.sub, more, e⟩
theorem Step.refl (W : Wd) (H : Hp) : Step W H W H := ⟨Same.refl _, ⟨[], by simp, by simp⟩, fun _ _ h _ => h, fun _ _ _ h _ _ => h⟩
theorem St0.live (x : St0 K mg W m H) {a : Addr} (h : a ∈ W.th) : ∃ o, H a = some o := by
  obtain ⟨i, hi, e⟩ := List.getElem_of_mem h
  have hm : i < m.length := by rw [← x.len]; exact hi
  exact (x.cell i a m[i] (by rw [List.getElem?_eq_getElem hi, e]) (List.getElem?_eq_getElem hm)).ex
theorem Step.nth (p : Step W H W1 H1) {b : Addr} {o : HO} (h : H b = some o) (n : b ∉ W.th) : b ∉ W1.th := by
  obtain ⟨more, e, f⟩ := p.th
  rw [e, List.mem_append]
  rintro (q | q)
  · exact n q
  · rw [f b q] at h
    cases h
theorem Step.trans (x1 : St0 K mg W1 m1 H1) (p : Step W H W1 H1) (q : Step W1 H1 W2 H2) : Step W H W2 H2 := by
  obtain ⟨m1', e1, f1⟩ := p.th
  obtain ⟨m2', e2, f2⟩ := q.th
  refine ⟨p.sub.trans q.sub, ⟨m1' ++ m2', by rw [e2, e1, List.append_assoc], fun a ha => ?_⟩, fun b o h n => q.keep b o (p.keep b o h n) (p.nth h n), fun b o h z n t => q.nofz b o (p.keep b o h n) (p.nofz b o h z n t) (p.nth h n) t⟩
  rcases List.mem_append.mp ha with z | z
  · exact f1 a z
  · cases e : H a with
    | none => rfl
    | some o =>
      have z2 := f2 a z
      by_cases ht : a ∈ W.th
      · obtain ⟨o', e'⟩ := x1.live (a := a) (by rw [e1]; exact List.mem_append_left _ ht)
        rw [z2] at e'
        cases e'
      · rw [p.keep a o e ht] at z2
        cases z2
theorem Own.step {a : Addr} {c : Cell} (h : Own K mg W H a c) (p : Step W H W1 H1) : Own K mg W1 H1 a c := by
  obtain ⟨o, e⟩ := h.at_.ex
  exact ⟨h.at_.mono p.le fun o' e' => p.keep a o' e' h.nt, p.nofz a o e h.nf h.nt (h.at_.ntup e), p.nth e h.nt⟩
theorem Holds.step (h : Holds K mg W s m σ H) (p : Step W H W1 H1) (x : St0 K mg W1 m1 H1) : Holds K mg W1 s m1 σ H1 := by
  refine ⟨x, h.slen, fun i d e => ?_, fun i c e => ?_, h.dis⟩
  · obtain ⟨v, q, r⟩ := h.slot i d e
    exact ⟨v, q, Rep.mono p.le d v r⟩
  · obtain ⟨a, q, r⟩ := h.own i c e
    exact ⟨a, q, r.step p⟩
theorem Same.none {A B : Hp} (s : Same A B) {p : Addr} (h : B p = none) : A p = none := by
  cases e : A p with
  | none => rfl
  | some o => rw [s p o e] at h; cases h
theorem upd_sub {A B : Hp} (s : Same A B) (p : Addr) (o : HO) : Same (upd A p o) (upd B p o) := fun b u e => by
  by_cases h : b = p
  · subst h
    rw [upd_same] at e ⊢
    exact e
  · rw [upd_ne h] at e ⊢
    exact s b u e
theorem sub_upd {A B : Hp} (s : Same A B) {p : Addr} (n : A p = Option.none) (o : HO) : Same A (upd B p o) := fun b u e => by
  by_cases h : b = p
  · subst h
    rw [n] at e
    cases e
  · rw [upd_ne h]
    exact s b u e
theorem same_upd {A : Hp} {p : Addr} (n : A p = Option.none) (o : HO) : Same A (upd A p o) := sub_upd (Same.refl A) n o
/-- a new object that stays as it is -/
theorem St0.laid (x : St0 K mg W m H) {p : Addr} (hp : H p = none) (o : HO) : St0 K mg ⟨upd W.Hf p o, W.th⟩ m (upd H p o) ∧ Step W H ⟨upd W.Hf p o, W.th⟩ (upd H p o) := by
  have hn := Same.none x.sub hp
  have nt : p ∉ W.th := fun z => by
    obtain ⟨o', e⟩ := x.live z
    rw [hp] at e
    cases e
  refine ⟨⟨upd_sub x.sub p o, x.len, fun i a c e1 e2 => ?_, fun a ha => ?_, x.nd⟩, ⟨same_upd hn o, ⟨[], by simp, by simp⟩, fun b u e _ => ?_, fun b u e z _ _ => ?_⟩⟩
  · have ha : a ≠ p := fun z => nt (z ▸ List.mem_of_getElem? e1)
    exact (x.cell i a c e1 e2).mono ⟨same_upd hn o, [], by simp⟩ fun u e => by rw [upd_ne ha]; exact e
  · have ha' : a ≠ p := fun z => nt (z ▸ ha)
    show upd W.Hf p o a = none
    rw [upd_ne ha']
    exact x.nf a ha
  · rw [upd_ne (ne_of_none e hp)]
    exact e
  · show upd W.Hf p o b = none
    rw [upd_ne (ne_of_none e hp)]
    exact z
/-- a new object of one's own -/
theorem St0.made (x : St0 K mg W m H) {p : Addr} (hp : H p = none) (o : HO) : St0 K mg W m (upd H p o) ∧ Step W H W (upd H p o) ∧ W.Hf p = none ∧ p ∉ W.th := by
  have hn := Same.none x.sub hp
  have nt : p ∉ W.th := fun z => by
    obtain ⟨o', e⟩ := x.live z
    rw [hp] at e
    cases e
  refine ⟨⟨sub_upd x.sub hn o, x.len, fun i a c e1 e2 => ?_, x.nf, x.nd⟩, ⟨Same.refl _, ⟨[], by simp, by simp⟩, fun b u e _ => ?_, fun b u e z _ _ => z⟩, hn, nt⟩
  · have ha : a ≠ p := fun z => nt (z ▸ List.mem_of_getElem? e1)
    exact (x.cell i a c e1 e2).mono (Le.refl W) fun u e => by rw [upd_ne ha]; exact e
  · rw [upd_ne (ne_of_none e hp)]
    exact e
/-- what one owns is left as it is from now on -/
theorem St0.freeze (x : St0 K mg W m H) {p : Addr} {o : HO} (hp : H p = some o) (hn : W.Hf p = none) (nt : p ∉ W.th) : St0 K mg ⟨upd W.Hf p o, W.th⟩ m H ∧ Le W ⟨upd W.Hf p o, W.th⟩ := by
  have l : Le W ⟨upd W.Hf p o, W.th⟩ := ⟨same_upd hn o, [], by simp⟩
  refine ⟨⟨fun b u e => ?_, x.len, fun i a c e1 e2 => (x.cell i a c e1 e2).mono l fun _ e => e, fun a ha => ?_, x.nd⟩, l⟩
  · by_cases h : b = p
    · subst h
      have e' : upd W.Hf b o b = some u := e
      rw [upd_same] at e'
      rw [hp]
      exact e'
    · have e' : upd W.Hf p o b = some u := e
      rw [upd_ne h] at e'
      exact x.sub b u e'
  · have ha' : a ≠ p := fun z => nt (z ▸ ha)
    show upd W.Hf p o a = none
    rw [upd_ne ha']
    exact x.nf a ha
/-- what one owns is written -/
theorem St0.write (x : St0 K mg W m H) {p : Addr} (hn : W.Hf p = none) (nt : p ∉ W.th) (o : HO) : St0 K mg W m (upd H p o) := by
  refine ⟨sub_upd x.sub hn o, x.len, fun i a c e1 e2 => ?_, x.nf, x.nd⟩
  have ha : a ≠ p := fun z => nt (z ▸ List.mem_of_getElem? e1)
  exact (x.cell i a c e1 e2).mono (Le.refl W) fun u e => by rw [upd_ne ha]; exact e
end
end Dp
end

section
set_option Elab.async false
set_option linter.all false
set_option maxRecDepth 100000
/-! The deep layer, part 2: what a pure computation says of a piece of syntax. -/
namespace Dp
open PySem PySem.Spec PyProof.Rows L2

section
variable (K : PySem.W.Frag) (mg : Str → Option Value)
/-- an exception's dict -/
def ExAt (W : Wd) (x : Exn) (d : Option Addr) : Prop := (x.ns = [] ∧ x.ds = [] ∧ d = none) ∨ ∃ dd vs, d = some dd ∧ W.Hf dd = some (.xd (x.ns.zip vs)) ∧ x.ns.length = x.ds.length ∧ Reps K mg W x.ds vs
/-- an expression's value: H the heap ahead -/
def SvAt (W' : Wd) (H H' : Hp) : SV → V → Prop
  | .val d, v => Rep K mg W' d v
  | .own c, v => ∃ p, v = .ref p ∧ Own K mg W' H' p c ∧ H p = none
def LsAt (W' : Wd) (_ _ : Hp) (ds : List D) (vs : List V) : Prop := Reps K mg W' ds vs
def BlAt (_ : Wd) (_ _ : Hp) (b : Bool) (c : Bool) : Prop := b = c
/-- the heap ahead may be taken earlier -/
def Rb {α β : Type} (A : Wd → Hp → Hp → α → β → Prop) : Prop := ∀ (W : Wd) (H : Hp) (W1 : Wd) (H1 : Hp) (m1 : Mu) (W' : Wd) (H' : Hp) (a : α) (b : β), St0 K mg W1 m1 H1 → Step W H W1 H1 → Step W1 H1 W' H' → A W' H1 H' a b → A W' H H' a b
def OutG {α β : Type} (A : Wd → Hp → Hp → α → β → Prop) (Wx : WX) (W : Wd) (H : Hp) (σ : L2.St) (r : R α) (Q : β → Hp → Prop) : Prop := match r with
  | .ok a m' => ∀ (W' : Wd) (b : β) (H' : Hp), St0 K mg W' m' H' → Step W H W' H' → A W' H H' a b → Q b H'
  | .ex x m' => ∀ (W' : Wd) (d : Option Addr) (H' : Hp), St0 K mg W' m' H' → Step W H W' H' → ExAt K mg W' x d → Wx (.ref (He.ga K x.c)) d σ H'
  | .bad => False
/-- the reading of a computation -/
def tG {α β : Type} (A : Wd → Hp → Hp → α → β → Prop) (Wx : WX) (f : Sl → Mu → R α) : L2.St → Hp → (β → Hp → Prop) → Prop := fun σ H Q =>
  ∃ (W : Wd) (s : Sl) (m : Mu), Holds K mg W s m σ H ∧ OutG K mg A Wx W H σ (f s m) Q
end
section
variable {K : PySem.W.Frag} {mg : Str → Option Value}
theorem rb_sv : Rb K mg (SvAt K mg) := fun W H W1 H1 m1 W' H' a b x1 p q h => by
  cases a with
  | val d => exact h
  | own c =>
    obtain ⟨l, e, o, n⟩ := h
    refine ⟨l, e, o, ?_⟩
    cases z : H l with
    | none => rfl
    | some u =>
      by_cases ht : l ∈ W.th
      · obtain ⟨m1', e1, _⟩ := p.th
        obtain ⟨m2', e2, _⟩ := q.th
        exact absurd (by rw [e2, e1]; exact List.mem_append_left _ (List.mem_append_left _ ht)) o.nt
      · rw [p.keep l u z ht] at n
        cases n
theorem rb_ls : Rb K mg (LsAt K mg) := fun _ _ _ _ _ _ _ _ _ _ _ _ h => h
theorem rb_bl : Rb K mg (fun W H H' => BlAt W H H') := fun _ _ _ _ _ _ _ _ _ _ _ _ h => h
theorem ExAt.mono {W W' : Wd} {x : Exn} {d : Option Addr} (h : ExAt K mg W x d) (l : Le W W') : ExAt K mg W' x d := by
  rcases h with h | ⟨dd, vs, e, h, n, r⟩
  · exact .inl h
  · exact .inr ⟨dd, vs, e, l.sub _ _ h, n, Reps.mono l _ _ r⟩
theorem OutG.rebase {α β : Type} {A : Wd → Hp → Hp → α → β → Prop} (rb : Rb K mg A) {Wx : WX} {W W1 : Wd} {H H1 : Hp} {m1 : Mu} {σ : L2.St} {r : R α} {Q : β → Hp → Prop} (x1 : St0 K mg W1 m1 H1) (p : Step W H W1 H1)
    (h : OutG K mg A Wx W H σ r Q) : OutG K mg A Wx W1 H1 σ r Q := by
  cases r with
  | ok a m' => exact fun W' b H' x' q av => h W' b H' x' (p.trans x1 q) (rb W H W1 H1 m1 W' H' a b x1 p q av)
  | ex x m' => exact fun W' d H' x' q e => h W' d H' x' (p.trans x1 q) e
  | bad => exact h
/-- THE STEP: the first part is run, the rest goes on from there -/
theorem run {α β γ δ : Type} {A1 : Wd → Hp → Hp → α → β → Prop} {A2 : Wd → Hp → Hp → γ → δ → Prop} (rb : Rb K mg A2) {Wx : WX} {W : Wd} {s : Sl} {m : Mu} {σ : L2.St} {H : Hp} {f : Sl → Mu → R α} {k : α → Mu → R γ} {Q : δ → Hp → Prop} {Q1 : β → Hp → Prop}
    (h : Holds K mg W s m σ H) (o : OutG K mg A2 Wx W H σ ((f s m).bind k) Q)
    (next : ∀ a m1 W1 b H1, f s m = .ok a m1 → Holds K mg W1 s m1 σ H1 → Step W H W1 H1 → A1 W1 H H1 a b → OutG K mg A2 Wx W1 H1 σ (k a m1) Q → Q1 b H1) : tG K mg A1 Wx f σ H Q1 := by
  refine ⟨W, s, m, h, ?_⟩
  cases e : f s m with
  | ok a m1 =>
    rw [e] at o
    exact fun W1 b H1 x1 p av => next a m1 W1 b H1 e (h.step p x1) p av (OutG.rebase rb x1 p o)
  | ex x m1 =>
    rw [e] at o
    exact o
  | bad =>
    rw [e] at o
    exact o
/-- the last part -/
theorem OutG.fin {α β : Type} {A : Wd → Hp → Hp → α → β → Prop} {Wx : WX} {W : Wd} {H : Hp} {m : Mu} {σ : L2.St} {a : α} {b : β} {Q : β → Hp → Prop} (h : OutG K mg A Wx W H σ (.ok a m) Q) (x : St0 K mg W m H) (av : A W H H a b) : Q b H :=
  h W b H x (Step.refl W H) av
theorem OutG.fin2 {α β : Type} {A : Wd → Hp → Hp → α → β → Prop} {Wx : WX} {W W' : Wd} {H H' : Hp} {m' : Mu} {σ : L2.St} {a : α} {b : β} {Q : β → Hp → Prop} (h : OutG K mg A Wx W H σ (.ok a m') Q) (x : St0 K mg W' m' H') (p : Step W H W' H') (av : A W' H H' a b) : Q b H' :=
  h W' b H' x p av

/-! ### containers of one's own frozen -/
theorem CellAt.repU {W : Wd} {H : Hp} {a : Addr} {c : Cell} {o : HO} (h : CellAt K mg W H a c) (e : H a = some o) (n : W.Hf a = none) : Rep K mg ⟨upd W.Hf a o, W.th⟩ c.fz (.ref a) := by
  have l : Le W ⟨upd W.Hf a o, W.th⟩ := ⟨same_upd n o, [], by simp⟩
  refine CellAt.rep (h.mono l fun u e2 => ?_)
  show upd W.Hf a o a = some u
  rw [upd_same, ← e]
  exact e2
/-- a new container of one's own becomes a value -/
theorem freeze_new {W W1 : Wd} {s : Sl} {m m1 : Mu} {σ : L2.St} {H H1 : Hp} {sv : SV} {v : V} (h : Holds K mg W s m σ H) (p : Step W H W1 H1) (h1 : Holds K mg W1 s m1 σ H1) (av : SvAt K mg W1 H H1 sv v) :
    ∃ W2, Holds K mg W2 s m1 σ H1 ∧ Step W H W2 H1 ∧ Rep K mg W2 sv.fz v ∧ Le W1 W2 := by
  cases sv with
  | val d => exact ⟨W1, h1, p, av, Le.refl _⟩
  | own c =>
    obtain ⟨l, rfl, o, n⟩ := av
    obtain ⟨u, e⟩ := o.at_.ex
    obtain ⟨x2, l2⟩ := h1.toSt0.freeze e o.nf o.nt
    refine ⟨⟨upd W1.Hf l u, W1.th⟩, ⟨x2, h1.slen, fun i d e1 => ?_, fun i c' e1 => ?_, h1.dis⟩, ⟨p.sub.trans l2.sub, p.th, p.keep, fun b z e1 e2 e3 t => ?_⟩, CellAt.repU o.at_ e o.nf, l2⟩
    · obtain ⟨v', q, r⟩ := h1.slot i d e1
      exact ⟨v', q, Rep.mono l2 d v' r⟩
    · obtain ⟨a, q, r⟩ := h1.own i c' e1
      obtain ⟨a0, q0, r0⟩ := h.own i c' e1
      rw [q] at q0
      cases q0
      obtain ⟨u0, e0⟩ := r0.at_.ex
      have ne : a ≠ l := ne_of_none e0 n
      refine ⟨a, q, r.at_.mono l2 fun _ z => z, ?_, r.nt⟩
      show upd W1.Hf l u a = none
      rw [upd_ne ne]
      exact r.nf
    · have ne : b ≠ l := ne_of_none e1 n
      show upd W1.Hf l u b = none
      rw [upd_ne ne]
      exact p.nofz b z e1 e2 e3 t
/-- THE STEP for an operand: its value is data from now on -/
theorem runz {γ δ : Type} {A2 : Wd → Hp → Hp → γ → δ → Prop} (rb : Rb K mg A2) {Wx : WX} {W : Wd} {s : Sl} {m : Mu} {σ : L2.St} {H : Hp} {f : Sl → Mu → R SV} {k : SV → Mu → R γ} {Q : δ → Hp → Prop} {Q1 : V → Hp → Prop}
    (h : Holds K mg W s m σ H) (o : OutG K mg A2 Wx W H σ ((f s m).bind k) Q)
    (next : ∀ a m1 W1 v H1, Holds K mg W1 s m1 σ H1 → Step W H W1 H1 → Rep K mg W1 a.fz v → OutG K mg A2 Wx W1 H1 σ (k a m1) Q → Q1 v H1) : tG K mg (SvAt K mg) Wx f σ H Q1 := by
  refine ⟨W, s, m, h, ?_⟩
  cases e : f s m with
  | ok a m1 =>
    rw [e] at o
    intro W1 v H1 x1 p av
    obtain ⟨W2, h2, p2, r2, _⟩ := freeze_new h p (h.step p x1) av
    exact next a m1 W2 v H1 h2 p2 r2 (OutG.rebase rb h2.toSt0 p2 o)
  | ex x m1 =>
    rw [e] at o
    exact o
  | bad =>
    rw [e] at o
    exact o
/-- a slot is stored -/
theorem Holds.put {W : Wd} {s : Sl} {m : Mu} {σ : L2.St} {H : Hp} (h : Holds K mg W s m σ H) (i : Nat) {sv : SV} {v : V}
    (hv : (∃ d : D, sv = SV.val d ∧ Rep K mg W d v) ∨ ∃ (c : Cell) (a : Addr), sv = SV.own c ∧ v = V.ref a ∧ Own K mg W H a c ∧ ∀ (j : Nat) (c' : Cell), s[j]? = some (some (.own c')) → σ[j]? ≠ some (some (.ref a))) :
    Holds K mg W (s.set i (some sv)) m (σ.set i (some v)) H := by
  have e1 : ∀ (j : Nat) (x : SV), (s.set i (some sv))[j]? = some (some x) → (j = i ∧ i < s.length ∧ x = sv) ∨ (j ≠ i ∧ s[j]? = some (some x)) := fun j x e => by
    by_cases hj : i = j
    · subst hj
      by_cases hl : i < s.length
      · rw [List.getElem?_set_self hl] at e
        cases e
        exact .inl ⟨rfl, hl, rfl⟩
      · rw [List.getElem?_eq_none (by simpa using hl)] at e
        cases e
    · rw [List.getElem?_set_ne hj] at e
      exact .inr ⟨fun z => hj z.symm, e⟩
  have e2 : ∀ (j : Nat), j ≠ i → (σ.set i (some v))[j]? = σ[j]? := fun j hj => List.getElem?_set_ne (fun z => hj z.symm)
  have e3 : i < s.length → (σ.set i (some v))[i]? = some (some v) := fun hl => List.getElem?_set_self (by rw [← h.slen]; exact hl)
  refine ⟨h.toSt0, by rw [List.length_set, List.length_set]; exact h.slen, fun j d e => ?_, fun j c e => ?_, fun j k c c' a a1 a2 b1 b2 => ?_⟩
  · rcases e1 j _ e with ⟨rfl, hl, rfl⟩ | ⟨hj, e⟩
    · rcases hv with ⟨d', z, r⟩ | ⟨c, a, z, _⟩
      · cases z
        exact ⟨v, e3 hl, r⟩
      · cases z
    · obtain ⟨w, q, r⟩ := h.slot j d e
      exact ⟨w, (e2 j hj).trans q, r⟩
  · rcases e1 j _ e with ⟨rfl, hl, rfl⟩ | ⟨hj, e⟩
    · rcases hv with ⟨d', z, r⟩ | ⟨c', a, z, rfl, o, _⟩
      · cases z
      · cases z
        exact ⟨a, e3 hl, o⟩
    · obtain ⟨w, q, r⟩ := h.own j c e
      exact ⟨w, (e2 j hj).trans q, r⟩
  · rcases e1 j _ a1 with ⟨rfl, hl, rfl⟩ | ⟨hj, a1'⟩
    · rcases e1 k _ a2 with ⟨rfl, _, _⟩ | ⟨hk, a2'⟩
      · rfl
      · rcases hv with ⟨d', z, r⟩ | ⟨c'', a', z, rfl, o, nn⟩
        · cases z
        · rw [e3 hl] at b1
          cases b1
          rw [e2 k hk] at b2
          exact absurd b2 (nn k c' a2')
    · rcases e1 k _ a2 with ⟨rfl, hl, rfl⟩ | ⟨hk, a2'⟩
      · rcases hv with ⟨d', z, r⟩ | ⟨c'', a', z, rfl, o, nn⟩
        · cases z
        · rw [e3 hl] at b2
          cases b2
          rw [e2 j hj] at b1
          exact absurd b1 (nn j c a1')
      · rw [e2 j hj] at b1
        rw [e2 k hk] at b2
        exact h.dis j k c c' a a1' a2' b1 b2
/-- a slot is forgotten -/
theorem Holds.drop {W : Wd} {s : Sl} {m : Mu} {σ : L2.St} {H : Hp} (h : Holds K mg W s m σ H) (i : Nat) : Holds K mg W (s.set i none) m σ H := by
  have e1 : ∀ (j : Nat) (x : SV), (s.set i none)[j]? = some (some x) → s[j]? = some (some x) := fun j x e => by
    by_cases hj : i = j
    · subst hj
      by_cases hl : i < s.length
      · rw [List.getElem?_set_self hl] at e
        cases e
      · rw [List.getElem?_eq_none (by simpa using hl)] at e
        cases e
    · rw [List.getElem?_set_ne hj] at e
      exact e
  exact ⟨h.toSt0, by rw [List.length_set]; exact h.slen, fun j d e => h.slot j d (e1 j _ e), fun j c e => h.own j c (e1 j _ e), fun j k c c' a a1 a2 => h.dis j k c c' a (e1 j _ a1) (e1 k _ a2)⟩
end
end Dp
end

section
set_option Elab.async false
set_option linter.all false
set_option maxRecDepth 100000
/-! The deep layer, part 3: the small syntax and its pure reading. -/
namespace Dp
open PySem PySem.Spec PyProof.Rows L2

/-! ### data as the library's -/
mutual
def D.py : D → Option PyData
  | .non => some .none
  | .bl b => some (.bool b)
  | .int i => some (.int i)
  | .str x => some (.str x)
  | .tup ds => (D.pys ds).map .tuple
  | .lst ds => (D.pys ds).map .list
  | .seq ds => (D.pys ds).map .list
  | .dk _ _ => none
  | .dt _ _ => none
  | .ins _ _ _ => none
  | .ref _ => none
  | .gl _ => none
def D.pys : List D → Option (List PyData)
  | [] => some []
  | d :: ds => (D.py d).bind fun p => (D.pys ds).map fun ps => p :: ps
end
def D.nums : List D → Option (List Int)
  | [] => some []
  | .int i :: ds => (D.nums ds).map fun l => i :: l
  | _ :: _ => none
def D.bls : List D → Option (List Bool)
  | [] => some []
  | .bl i :: ds => (D.bls ds).map fun l => i :: l
  | _ :: _ => none

/-! ### the small syntax -/
inductive BO where
  | add | sub | mul | fdiv | mod | pow | band
deriving DecidableEq
inductive CO where
  | eq | ne | lt | le | gt | ge | inn | nin | isn | ntn
deriving DecidableEq
/-- built-in functions of values -/
inductive BF where
  | len | int | abs | min | max | tuple | list | sum | sorted | sortedR | all | any
deriving DecidableEq
/-- what isinstance asks for: a built-in class, a class of the program -/
inductive Ty where
  | bt (n : String) | own (c : Str)
deriving DecidableEq
/-- targets -/
inductive T where
  | nm (i : Nat) | tp (l : List Nat) | tl (l : List Nat)
mutual
inductive E where
  | var (i : Nat)
  | int (n : Int) | bl (b : Bool) | non | str (x : Str)
  | gint (x : Str) (n : Int) | gdef (x : Str)
  | bin (o : BO) (a b : P)
  | neg (a : E)
  | cmp (o : CO) (a b : P)
  | chn (o p : CO) (a b c : E)
  | not (a : E) | and (es : Es) | or (es : Es)
  | ife (c : B) (a b : E)
  | tup (es : Es) | lst (es : Es)
  | idx (a : P) (b : E) | slc (a : P) (lo hi : O)
  | call (k : Nat) (es : Es)
  | new (c : Str) (k : Nat) (es : Es)
  | meth (o : E) (m : Str) (cs : List (Str × Nat)) (es : Es)
  | attr (o : P) (f : Str)
  | bif (f : BF) (es : Ps) | leno (a : E) (ks : List (Str × Nat))
  | isi (a : E) (t : Ty) | isis (a : E) (ts : List Ty)
  | lc (t : T) (own : List (Str × Nat)) (it : I) (c : OB) (e : E)
  | mpop (o : E)
  | dget (o : P) (k e : E)
  | inm (neg : Bool) (a o : E) (ks : List (Str × Nat))
  | dnew (tk : Bool)
  | dset (k v : E)
  | mpopI (o a : E)
inductive Es where
  | nil | cons (e : E) (r : Es)
inductive P where
  | e (e : E) | sl (i : Nat)
inductive Ps where
  | nil | cons (e : P) (r : Ps)
inductive O where
  | none | some (e : E)
inductive OB where
  | none | some (b : B)
inductive B where
  | e (e : P) | cmp (o : CO) (a b : P) | chn (o p : CO) (a b c : E) | not (b : B) | and (bs : Bs) | or (bs : Bs) | inm (neg : Bool) (a o : E) (ks : List (Str × Nat))
inductive Bs where
  | nil | cons (b : B) (r : Bs)
inductive I where
  | seq (e : E) | rng1 (a : E) | rng2 (a b : E) | enum (e : E) | zip (a b : E) | rev (e : E) | revr (a : E)
end
/-- methods that change a container of one's own -/
inductive OM where
  | append | insert | pop | popAt | reverse | extend | clear
deriving DecidableEq
/-- what an except suite hands back -/
inductive HI where
  | str (x : Str) | int (n : Int) | fld (f : Str)
inductive HS where
  | retL (l : List HI) | retB (b : Bool)
/-- an except clause: its class, the slot of its name -/
structure Hc where
  cls : Str
  nm : Option Nat
  su : HS
mutual
inductive S where
  | ex (e : E)
  | rse (c : Str) (e : E)
  | try_ (b : Ss) (hs : List Hc)
  | mov (i j : Nat)
  | asg (t : T) (e : E)
  | asgO (i : Nat) (e : E)
  | asgM (i : Nat) (e : E)
  | aug (i : Nat) (o : BO) (e : E)
  | om (i : Nat) (m : OM) (es : Es)
  | omr (t : Nat) (i : Nat) (m : OM) (es : Es)
  | seti (i : Nat) (a e : E)
  | setf (i : Nat) (f : Str) (e : E)
  | ret (e : E) | retS (i : Nat) | retN
  | ife (c : B) (a b : Ss)
  | for_ (t : T) (it : I) (body : Ss) (fg : List Nat)
  | whl (n : Nat) (c : B) (body : Ss) (fg : List Nat)
  | pass | brk | cont
  | never
  | gfz (i : Nat) | gfg (is : List Nat)
inductive Ss where
  | nil | cons (s : S) (r : Ss)
end
structure Fn where
  at_ : Str × Option Str
  qual : Str
  ps : List Str
  N : List Str
  dfl : List D
  body : Ss
structure Prog where
  fns : List Fn
  gints : List (Str × Int)
  flds : List (Str × List Str)
  clss : List Str
  subs : List ((Ty × Ty) × Bool)
  news : List (Str × Nat)
  mets : List ((Str × Str) × Nat)
  exs : List (Str × Str) := []
  exm : List ((Str × Str) × Bool) := []

/-! ### operations on data -/
def guardR {α : Type} (b : Bool) (r : R α) : R α := if b = true then r else .bad
def r62 (n : Int) : Bool := decide (-(2 ^ 62) ≤ n) && decide (n < 2 ^ 62)
def r63 (n : Int) : Bool := decide (0 ≤ n) && decide (n < 2 ^ 63)
def rs63 (n : Int) : Bool := decide (-(2 ^ 63) ≤ n) && decide (n < 2 ^ 63)
theorem r63_le {n : Int} (h : r63 n = true) : 0 ≤ n ∧ n < 2 ^ 63 := by
  unfold r63 at h
  rw [Bool.and_eq_true, decide_eq_true_eq, decide_eq_true_eq] at h
  exact h
theorem rs63_le {n : Int} (h : rs63 n = true) : -(2 ^ 63) ≤ n ∧ n < 2 ^ 63 := by
  unfold rs63 at h
  rw [Bool.and_eq_true, decide_eq_true_eq, decide_eq_true_eq] at h
  exact h
def small64 (i : Int) : Bool := decide (-(2 ^ 64) < i) && decide (i < 2 ^ 64)
def opB : BO → D → D → Mu → R SV
  | .add, .int i, .int j, m => .ok (.val (.int (i + j))) m
  | .add, .tup a, .tup b, m => guardR (decide (a.length + b.length ≤ sizeLine)) (.ok (.val (.tup (a ++ b))) m)
  | .add, .lst a, .lst b, m => guardR (decide (a.length + b.length ≤ sizeLine)) (.ok (.own (.lst (a ++ b))) m)
  | .add, .str a, .str b, m => guardR (decide (a.length + b.length ≤ sizeLine)) (.ok (.val (.str (a ++ b))) m)
  | .sub, .int i, .int j, m => .ok (.val (.int (i - j))) m
  | .mul, .int i, .int j, m => guardR (small64 i || small64 j) (.ok (.val (.int (i * j))) m)
  | .mul, .lst a, .int j, m => guardR (decide (-(2 ^ 63) ≤ j) && (decide (j < 2 ^ 63) && decide (a.length * j.toNat ≤ sizeLine))) (.ok (.own (.lst (List.replicate j.toNat a).flatten)) m)
  | .mul, .tup a, .int j, m => guardR (!a.isEmpty && (decide (2 ≤ j) && (decide (j ≤ 1000) && decide (a.length ≤ 1000)))) (.ok (.val (.tup (List.replicate j.toNat a).flatten)) m)
  | .fdiv, .int i, .int j, m => guardR (decide (0 < j) && decide (j < 1073741824)) (.ok (.val (.int (i / j))) m)
  | .mod, .int i, .int j, m => guardR (decide (0 < j)) (.ok (.val (.int (i % j))) m)
  | .pow, .int i, .int j, m => guardR (decide (0 ≤ j) && (decide (j ≤ 1000000) && decide (i.natAbs < 2 ^ 64))) (.ok (.val (.int (i ^ j.toNat))) m)
  | .band, .int i, .int j, m => .ok (.val (.int (Builtin.bitAnd i j))) m
  | _, _, _, _ => .bad
def eqD? (a b : D) : Option Bool := match a.py, b.py with
  | some p, some q => if (SeqAt.shaped p && SeqAt.shaped q) = true then some (PyData.eqv p q) else none
  | _, _ => none
def inD? (a : D) : D → Option Bool
  | .lst ds => (match a.py, D.pys ds with
    | some p, some qs => if (SeqAt.shaped p && SeqAt.shaped (.list qs)) = true then some (qs.any fun z => PyData.eqv z p) else none
    | _, _ => none)
  | .tup ds => (match a, D.nums ds with
    | .int i, some l => some (l.any fun z => z == i)
    | _, _ => none)
  | .dk ks _ => (match a with
    | .int i => some (ks.any fun z => decide (z = .inl i))
    | .str x => some (ks.any fun z => decide (z = .inr x))
    | _ => none)
  | _ => none
def cmpI? (f : Int → Int → Bool) : D → D → Option Bool
  | .int i, .int j => some (f i j)
  | _, _ => none
def isNon : D → Bool
  | .non => true
  | _ => false
def cmpD? (o : CO) (a b : D) : Option Bool := match o with
  | .eq => eqD? a b
  | .ne => (eqD? a b).map not
  | .lt => cmpI? (fun i j => decide (i < j)) a b
  | .le => cmpI? (fun i j => decide (i ≤ j)) a b
  | .gt => cmpI? (fun i j => decide (j < i)) a b
  | .ge => cmpI? (fun i j => decide (j ≤ i)) a b
  | .inn => inD? a b
  | .nin => (inD? a b).map not
  | .isn => if isNon b = true then some (isNon a) else none
  | .ntn => if isNon b = true then some (!isNon a) else none
def opC (o : CO) (a b : D) (m : Mu) : R SV := match cmpD? o a b with
  | some r => .ok (.val (.bl r)) m
  | none => .bad
def truthD : D → Option Bool
  | .non => some false
  | .bl b => some b
  | .int i => some (i != 0)
  | .tup ds => some (!ds.isEmpty)
  | .lst ds => some (!ds.isEmpty)
  | .seq ds => some (!ds.isEmpty)
  | .dk ks _ => some (!ks.isEmpty)
  | _ => none
def putKN {κ : Type} [DecidableEq κ] (k : κ) (ks : List κ) : List κ := if (ks.any fun g => decide (g = k)) = true then ks else ks ++ [k]
def putKD {κ α : Type} [DecidableEq κ] (k : κ) (d : α) (ks : List κ) (ds : List α) : List α := if (ks.any fun g => decide (g = k)) = true then (ks.zip ds).map (fun p => if p.1 = k then d else p.2) else ds ++ [d]
def valD {κ α : Type} [DecidableEq κ] (ks : List κ) (ds : List α) (k : κ) : Option α := ((ks.zip ds).find? fun p => decide (p.1 = k)).map (·.2)
def keyD : D → Option Key
  | .int i => some (.inl i)
  | .str x => some (.inr x)
  | _ => none
def keysD : List D → Option (List Key)
  | [] => some []
  | d :: ds => (keyD d).bind fun k => (keysD ds).map fun l => k :: l
def keyT : D → Option (List Key)
  | .tup ds => keysD ds
  | _ => none
def kD : Key → D
  | .inl i => .int i
  | .inr x => .str x
def dgetV : D → D → D → Option D
  | .dk ks ds, y, z => (keyD y).map fun k => (valD ks ds k).getD z
  | .dt ks ds, y, z => (keyT y).map fun k => (valD ks ds k).getD z
  | _, _, _ => none
def isDct : D → Bool
  | .dk _ _ => true
  | .dt _ _ => true
  | _ => false
def isML (m : Mu) : D → Bool
  | .ref i => (match m[i]? with | some (.lst _) => true | _ => false)
  | _ => false
/-- xs[i] -/
def atD (ds : List D) (i : Int) : Option D := atI ds i
def opIx : D → D → Mu → R SV
  | .tup ds, .int i, m => (match atI ds i with | some d => .ok (.val d) m | none => .bad)
  | .lst ds, .int i, m => (match atI ds i with | some d => .ok (.val d) m | none => .bad)
  | .seq ds, .int i, m => (match atI ds i with | some d => .ok (.val d) m | none => .bad)
  | .dk ks ds, .int i, m => (match valD ks ds (.inl i) with | some d => .ok (.val d) m | none => .bad)
  | .dk ks ds, .str i, m => (match valD ks ds (.inr i) with | some d => .ok (.val d) m | none => .bad)
  | .dt ks ds, .tup y, m => (match keysD y with | some k => (match valD ks ds k with | some d => .ok (.val d) m | none => .bad) | none => .bad)
  | _, _, _ => .bad
def cutD (xs : List D) (lo hi : Option Int) : List D := (xs.drop (HT.sIx xs.length 0 lo)).take (HT.sIx xs.length xs.length hi - HT.sIx xs.length 0 lo)
def opSl : D → Option Int → Option Int → Mu → R SV
  | .lst ds, lo, hi, m => .ok (.own (.lst (cutD ds lo hi))) m
  | .tup ds, lo, hi, m => .ok (.val (.tup (cutD ds lo hi))) m
  | _, _, _, _ => .bad
/-- a list of ints in order -/
def insI (x : Int) : List Int → List Int
  | [] => [x]
  | y :: r => if x ≤ y then x :: y :: r else y :: insI x r
def sortI : List Int → List Int
  | [] => []
  | x :: r => insI x (sortI r)
def maxI : Int → List Int → Int
  | a, [] => a
  | a, b :: r => maxI (if b > a then b else a) r
def minI : Int → List Int → Int
  | a, [] => a
  | a, b :: r => minI (if b < a then b else a) r
def keysI : List Key → Option (List Int)
  | [] => some []
  | .inl i :: r => (keysI r).map fun l => i :: l
  | _ :: _ => none
/-- a built-in function -/
def opF : BF → List D → Mu → R SV
  | .len, [.tup ds], m => .ok (.val (.int ds.length)) m
  | .len, [.lst ds], m => .ok (.val (.int ds.length)) m
  | .len, [.seq ds], m => .ok (.val (.int ds.length)) m
  | .len, [.dk ks _], m => .ok (.val (.int ks.length)) m
  | .int, [.int i], m => .ok (.val (.int i)) m
  | .int, [.bl b], m => .ok (.val (.int (if b then 1 else 0))) m
  | .abs, [.int i], m => .ok (.val (.int (if i < 0 then -i else i))) m
  | .max, [.int i, .int j], m => .ok (.val (.int (if j > i then j else i))) m
  | .min, [.int i, .int j], m => .ok (.val (.int (if j < i then j else i))) m
  | .max, [.lst ds], m => (match D.nums ds with | some (a :: l) => .ok (.val (.int (maxI a l))) m | _ => .bad)
  | .min, [.lst ds], m => (match D.nums ds with | some (a :: l) => .ok (.val (.int (minI a l))) m | _ => .bad)
  | .tuple, [.lst ds], m => .ok (.val (.tup ds)) m
  | .tuple, [.seq ds], m => .ok (.val (.tup ds)) m
  | .tuple, [.tup ds], m => .ok (.val (.tup ds)) m
  | .list, [.lst ds], m => .ok (.own (.lst ds)) m
  | .list, [.seq ds], m => .ok (.own (.lst ds)) m
  | .list, [.tup ds], m => .ok (.own (.lst ds)) m
  | .list, [.dt ks _], m => .ok (.own (.lst (ks.map fun k => .tup (k.map kD)))) m
  | .sum, [.lst ds], m => (match D.nums ds with | some l => .ok (.val (.int l.sum)) m | none => .bad)
  | .sorted, [.lst ds], m => (match D.nums ds with | some l => .ok (.own (.lst ((sortI l).map .int))) m | none => .bad)
  | .sortedR, [.dk ks _], m => (match keysI ks with | some l => guardR (decide (l.length < 64)) (.ok (.own (.lst ((sortI l).reverse.map .int))) m) | none => .bad)
  | .all, [.lst ds], m => (match D.bls ds with | some l => .ok (.val (.bl (l.all id))) m | none => .bad)
  | .any, [.lst ds], m => (match D.bls ds with | some l => .ok (.val (.bl (l.any id))) m | none => .bad)
  | _, _, _ => .bad
/-- a shared cell is read -/
def seeD (m : Mu) : D → D
  | .ref i => (match m[i]? with | some c => c.fz | none => .ref i)
  | d => d
/-- the type of a value -/
def tyOfD : D → Option Ty
  | .non => some (.bt "NoneType")
  | .bl _ => some (.bt "bool")
  | .int _ => some (.bt "int")
  | .str _ => some (.bt "str")
  | .tup _ => some (.bt "tuple")
  | .lst _ => some (.bt "list")
  | .seq _ => some (.bt "list")
  | .dk _ _ => some (.bt "dict")
  | .dt _ _ => some (.bt "dict")
  | .ins c _ _ => some (.own c)
  | .ref _ => none
  | .gl _ => some (.bt "tuple")
/-- the built-in classes that are asked for -/
def btNames : List String := ["bool", "int", "str", "tuple", "list", "dict"]
def btSub (a b : String) : Bool := a == b || (a == "bool" && b == "int")
def isSub (subs : List ((Ty × Ty) × Bool)) (s t : Ty) : Option Bool := match s, t with
  | .bt a, .bt b => if (a :: btNames).contains b = true then some (btSub a b) else none
  | _, _ => subs.lookup (s, t)
def isTyD (subs : List ((Ty × Ty) × Bool)) (d : D) (t : Ty) : Option Bool := (tyOfD d).bind fun s => isSub subs s t
def isTyA (subs : List ((Ty × Ty) × Bool)) (d : D) : List Ty → Option Bool
  | [] => some false
  | t :: ts => match isTyD subs d t with
    | some true => some true
    | some false => isTyA subs d ts
    | none => none
def putFN (f : Str) : List Str → List Str
  | [] => [f]
  | g :: r => if g = f then g :: r else g :: putFN f r
def putFD (f : Str) (d : D) : List Str → List D → List D
  | [], _ => [d]
  | g :: r, x :: xs => if g = f then d :: xs else x :: putFD f d r xs
  | _ :: _, [] => [d]
def getFD (f : Str) : List Str → List D → Option D
  | g :: r, x :: xs => if f = g then some x else getFD f r xs
  | _, _ => none
/-- a target's slots -/
def bindT (s : Sl) : T → D → Option Sl
  | .nm i, d => some (s.set i (some (.val d)))
  | .tp l, .tup ds => if l.length = ds.length then some ((l.zip ds).foldl (fun s p => s.set p.1 (some (.val p.2))) s) else none
  | .tl l, .lst ds => if l.length = ds.length then some ((l.zip ds).foldl (fun s p => s.set p.1 (some (.val p.2))) s) else none
  | .tp _, _ => none
  | .tl _, _ => none
def wipeS (s : Sl) : List Nat → Sl
  | [] => s
  | i :: r => (wipeS s r).set i none
mutual
/-- no shared cell from n on is named -/
def D.lo (n : Nat) : D → Bool
  | .ref i => decide (i < n)
  | .tup ds => D.los n ds
  | .lst ds => D.los n ds
  | .seq ds => D.los n ds
  | .dk _ ds => D.los n ds
  | .dt _ ds => D.los n ds
  | .ins _ _ ds => D.los n ds
  | .non => true
  | .bl _ => true
  | .int _ => true
  | .str _ => true
  | .gl _ => true
def D.los (n : Nat) : List D → Bool
  | [] => true
  | d :: ds => D.lo n d && D.los n ds
end
open Classical in
/-- a new instance behind its __init__ -/
noncomputable def newR (m1 : Mu) (r : SV) (m2 : Mu) : R SV := match r with
  | .val .non => (match m2.getLast? with
    | some c => if m2 = m1 ++ [c] ∧ D.lo m1.length c.fz = true then .ok (.own c) m1 else .bad
    | none => .bad)
  | _ => .bad
/-- the turns of a comprehension -/
def lcL (f : D → Mu → R (Option D)) : List D → List D → Mu → R (List D)
  | [], acc, m => .ok acc m
  | d :: ds, acc, m => (f d m).bindN fun o m1 => (match o with
    | some x => guardR (decide (acc.length < sizeLine)) (lcL f ds (acc ++ [x]) m1)
    | none => lcL f ds acc m1)

/-! ### reading expressions -/
noncomputable section
variable (G : Prog) (cf : Nat → List D → Mu → R SV)
mutual
def evE : E → Sl → Mu → R SV
  | .var i, s, m => (match s[i]? with | some (some (.val d)) => .ok (.val d) m | _ => .bad)
  | .int n, _, m => .ok (.val (.int n)) m
  | .bl b, _, m => .ok (.val (.bl b)) m
  | .non, _, m => .ok (.val .non) m
  | .str x, _, m => .ok (.val (.str x)) m
  | .gint _ n, _, m => .ok (.val (.int n)) m
  | .gdef x, _, m => .ok (.val (.gl x)) m
  | .bin o a b, s, m => (evP a s m).bind fun x m1 => (evP b s m1).bind fun y m2 => opB o (seeD m2 x) (seeD m2 y) m2
  | .neg a, s, m => (evE a s m).bind fun x m1 => (match x.fz with | .int i => .ok (.val (.int (-i))) m1 | _ => .bad)
  | .cmp o a b, s, m => (evP a s m).bind fun x m1 => (evP b s m1).bind fun y m2 => opC o (seeD m2 x) (seeD m2 y) m2
  | .chn o p a b c, s, m => (evE a s m).bind fun x m1 => (evE b s m1).bind fun y m2 => (opC o x.fz y.fz m2).bind fun r m3 => (match r.fz with
    | .bl true => (evE c s m3).bind fun z m4 => opC p y.fz z.fz m4
    | .bl false => .ok (.val (.bl false)) m3
    | _ => .bad)
  | .not a, s, m => (evE a s m).bind fun x m1 => (match x.fz with | .bl b => .ok (.val (.bl (!b))) m1 | _ => .bad)
  | .and es, s, m => evAnd es s m
  | .or es, s, m => evOr es s m
  | .ife c a b, s, m => (evB c s m).bind fun t m1 => if t = true then evE a s m1 else evE b s m1
  | .tup es, s, m => (evEs es s m).bind fun ds m1 => guardR (decide (ds.length ≤ sizeLine)) (.ok (.val (.tup ds)) m1)
  | .lst es, s, m => (evEs es s m).bind fun ds m1 => guardR (decide (ds.length ≤ sizeLine)) (.ok (.own (.lst ds)) m1)
  | .idx a b, s, m => (evP a s m).bind fun x m1 => (evE b s m1).bind fun y m2 => opIx (seeD m2 x) y.fz m2
  | .slc a lo hi, s, m => (evP a s m).bind fun x m1 => (evO lo s m1).bind fun l m2 => (evO hi s m2).bind fun h m3 => opSl (seeD m3 x) l h m3
  | .call k es, s, m => (evEs es s m).bind fun ds m1 => cf k ds m1
  | .new c k es, s, m => (evEs es s m).bind fun ds m1 => (cf k (.ref m1.length :: ds) (m1 ++ [.ins c [] []])).bind fun r m2 => newR m1 r m2
  | .meth o mn cs es, s, m => (evE o s m).bind fun x m1 => (match seeD m1 x.fz with
    | .ins c ns _ => (match cs.lookup c with
      | some k => guardR (!ns.contains mn) ((evEs es s m1).bind fun ds m2 => cf k (x.fz :: ds) m2)
      | none => .bad)
    | _ => .bad)
  | .attr o f, s, m => (evP o s m).bind fun x m1 => (match seeD m1 x with
    | .ins c ns ds => (match G.flds.lookup c, getFD f ns ds with
      | some fl, some d => guardR (decide (f ∈ fl)) (.ok (.val d) m1)
      | _, _ => .bad)
    | _ => .bad)
  | .bif f es, s, m => (evPs es s m).bind fun ds m1 => opF f (ds.map (seeD m1)) m1
  | .leno a ks, s, m => (evE a s m).bind fun x m1 => (match seeD m1 x.fz with
    | .ins c _ _ => (match ks.lookup c with
      | some k => (cf k [x.fz] m1).bindN fun r m2 => (match r.fz with
        | .int n => guardR (r63 n) (.ok (.val (.int n)) m2)
        | _ => .bad)
      | none => .bad)
    | _ => .bad)
  | .isi a t, s, m => (evE a s m).bind fun x m1 => (match isTyD G.subs (seeD m1 x.fz) t with | some b => .ok (.val (.bl b)) m1 | none => .bad)
  | .isis a ts, s, m => (evE a s m).bind fun x m1 => (match isTyA G.subs (seeD m1 x.fz) ts with | some b => .ok (.val (.bl b)) m1 | none => .bad)
  | .lc t own it c e, s, m => (evI it s m).bind fun ds m1 => (lcL (fun d m2 => (match bindT (wipeS s (own.map (·.2))) t d with
      | some s2 => (evOB c s2 m2).bind fun b m3 => if b = true then (evE e s2 m3).bind fun x m4 => .ok (some x.fz) m4 else .ok none m3
      | none => .bad)) ds [] m1).bind fun r m5 => .ok (.own (.lst r)) m5
  | .mpop o, s, m => (evE o s m).bind fun x m1 => (match x.fz with
    | .ref i => (match m1[i]? with
      | some (.lst ds) => (match ds.getLast? with
        | some d => .ok (.val d) (m1.set i (.lst ds.dropLast))
        | none => .bad)
      | _ => .bad)
    | _ => .bad)
  | .dget o k e, s, m => (evP o s m).bind fun x m1 => if isDct (seeD m1 x) = true then (evE k s m1).bind fun y m2 => (evE e s m2).bind fun z m3 => (match dgetV (seeD m3 x) y.fz z.fz with
      | some d => .ok (.val d) m3
      | none => .bad) else .bad
  | .dset k v, s, m => (evE k s m).bind fun y m1 => (evE v s m1).bind fun z m2 => (match keyT y.fz with
      | some key => .ok (.own (.dt [key] [z.fz])) m2
      | none => .bad)
  | .mpopI o a, s, m => (evE o s m).bind fun x m1 => if isML m1 x.fz = true then (evE a s m1).bind fun y m2 => (match x.fz, y.fz with
      | .ref i, .int j => (match m2[i]? with
        | some (.lst ds) => if rs63 j = true then (match seqIndex? j ds.length with
          | some k => (match ds[k]? with
            | some d => .ok (.val d) (m2.set i (.lst (ds.eraseIdx k)))
            | none => .bad)
          | none => .bad) else .bad
        | _ => .bad)
      | _, _ => .bad) else .bad
  | .inm neg a o ks, s, m => (evE a s m).bind fun x m1 => (evE o s m1).bind fun y m2 => (match seeD m2 y.fz with
    | .ins c _ _ => (match ks.lookup c with
      | some k => (cf k [y.fz, x.fz] m2).bindN fun r m3 => (match r.fz with
        | .bl b => .ok (.val (.bl (if neg = true then !b else b))) m3
        | _ => .bad)
      | none => .bad)
    | _ => .bad)
  | .dnew true, _, m => .ok (.own (.dt [] [])) m
  | .dnew false, _, m => .ok (.own (.dk [] [])) m
def evEs : Es → Sl → Mu → R (List D)
  | .nil, _, m => .ok [] m
  | .cons e r, s, m => (evE e s m).bind fun x m1 => (evEs r s m1).bind fun xs m2 => .ok (x.fz :: xs) m2
/-- an operand that is read: a shared cell, a container of one's own as it stands -/
def evP : P → Sl → Mu → R D
  | .e e, s, m => (evE e s m).bind fun x m1 => .ok x.fz m1
  | .sl i, s, m => (match s[i]? with | some (some (.own c)) => .ok c.fz m | _ => .bad)
def evPs : Ps → Sl → Mu → R (List D)
  | .nil, _, m => .ok [] m
  | .cons e r, s, m => (evP e s m).bind fun x m1 => (evPs r s m1).bind fun xs m2 => .ok (x :: xs) m2
def evO : O → Sl → Mu → R (Option Int)
  | .none, _, m => .ok none m
  | .some e, s, m => (evE e s m).bind fun x m1 => (match x.fz with | .int i => .ok (some i) m1 | _ => .bad)
def evOB : OB → Sl → Mu → R Bool
  | .none, _, m => .ok true m
  | .some b, s, m => evB b s m
def evB : B → Sl → Mu → R Bool
  | .e e, s, m => (evP e s m).bind fun x m1 => (match truthD (seeD m1 x) with | some b => .ok b m1 | none => .bad)
  | .cmp o a b, s, m => (evP a s m).bind fun x m1 => (evP b s m1).bind fun y m2 => (opC o (seeD m2 x) (seeD m2 y) m2).bind fun r m3 => (match r.fz with | .bl k => .ok k m3 | _ => .bad)
  | .chn o p a b c, s, m => (evE a s m).bind fun x m1 => (evE b s m1).bind fun y m2 => (opC o x.fz y.fz m2).bind fun r m3 => (match r.fz with
    | .bl true => (evE c s m3).bind fun z m4 => (opC p y.fz z.fz m4).bind fun q m5 => (match q.fz with | .bl k => .ok k m5 | _ => .bad)
    | .bl false => .ok false m3
    | _ => .bad)
  | .not b, s, m => (evB b s m).bind fun t m1 => .ok (!t) m1
  | .and bs, s, m => evBand bs s m
  | .or bs, s, m => evBor bs s m
  | .inm neg a o ks, s, m => (evE a s m).bind fun x m1 => (evE o s m1).bind fun y m2 => (match seeD m2 y.fz with
    | .ins c _ _ => (match ks.lookup c with
      | some k => (cf k [y.fz, x.fz] m2).bindN fun r m3 => (match r.fz with
        | .bl b => .ok (if neg = true then !b else b) m3
        | _ => .bad)
      | none => .bad)
    | _ => .bad)
def evBand : Bs → Sl → Mu → R Bool
  | .nil, _, m => .ok true m
  | .cons b r, s, m => (evB b s m).bind fun t m1 => if t = true then evBand r s m1 else .ok false m1
def evBor : Bs → Sl → Mu → R Bool
  | .nil, _, m => .ok false m
  | .cons b r, s, m => (evB b s m).bind fun t m1 => if t = true then .ok true m1 else evBor r s m1
/-- the values of a written and, or: all but the last are truth values -/
def evAnd : Es → Sl → Mu → R SV
  | .nil, _, _ => .bad
  | .cons a r, s, m => (match r with
    | .nil => evE a s m
    | .cons _ _ => (evE a s m).bind fun x m1 => (match x.fz with | .bl true => evAnd r s m1 | .bl false => .ok (.val (.bl false)) m1 | _ => .bad))
def evOr : Es → Sl → Mu → R SV
  | .nil, _, _ => .bad
  | .cons a r, s, m => (match r with
    | .nil => evE a s m
    | .cons _ _ => (evE a s m).bind fun x m1 => (match x.fz with | .bl true => .ok (.val (.bl true)) m1 | .bl false => evOr r s m1 | _ => .bad))
def evI : I → Sl → Mu → R (List D)
  | .seq p, s, m => (evE p s m).bind fun x m1 => (match x.fz with
    | .lst ds => .ok ds m1
    | .tup ds => .ok ds m1
    | .seq ds => .ok ds m1
    | .gl _ => .ok [] m1
    | _ => .bad)
  | .rng1 a, s, m => (evE a s m).bind fun x m1 => (match x.fz with
    | .int n => guardR (r62 n) (.ok ((List.range n.toNat).map fun i => D.int (i : Nat)) m1)
    | _ => .bad)
  | .rng2 a b, s, m => (evE a s m).bind fun x m1 => (evE b s m1).bind fun y m2 => (match x.fz, y.fz with
    | .int l, .int h => guardR (r62 l && r62 h) (.ok ((List.range (h - l).toNat).map fun i => D.int (l + (i : Nat))) m2)
    | _, _ => .bad)
  | .enum p, s, m => (evE p s m).bind fun x m1 => (match x.fz with
    | .lst ds => .ok (((List.range ds.length).zip ds).map fun q => .tup [.int (q.1 : Nat), q.2]) m1
    | .tup ds => .ok (((List.range ds.length).zip ds).map fun q => .tup [.int (q.1 : Nat), q.2]) m1
    | .gl _ => .ok [] m1
    | _ => .bad)
  | .zip p q, s, m => (evE p s m).bind fun x m1 => (evE q s m1).bind fun y m2 => (match x.fz, y.fz with
    | .lst a, .lst b => .ok ((a.zip b).map fun q => .tup [q.1, q.2]) m2
    | .tup a, .tup b => .ok ((a.zip b).map fun q => .tup [q.1, q.2]) m2
    | _, _ => .bad)
  | .rev p, s, m => (evE p s m).bind fun x m1 => (match x.fz with
    | .lst ds => .ok ds.reverse m1
    | .tup ds => .ok ds.reverse m1
    | _ => .bad)
  | .revr a, s, m => (evE a s m).bind fun x m1 => (match x.fz with
    | .int n => guardR (r62 n) (.ok ((List.range n.toNat).map fun i => D.int (n - 1 - (i : Nat))) m1)
    | _ => .bad)
end
end

/-! ### reading statements -/
inductive SR where
  | nx (s : Sl) (m : Mu) | rt (v : SV) (m : Mu) | bk (s : Sl) (m : Mu) | ct (s : Sl) (m : Mu) | ex (x : Exn) (s : Sl) (m : Mu) | bad
def SR.then_ (r : SR) (f : Sl → Mu → SR) : SR := match r with
  | .nx s m => f s m
  | .rt v m => .rt v m
  | .bk s m => .bk s m
  | .ct s m => .ct s m
  | .ex x s m => .ex x s m
  | .bad => .bad
/-- an expression's outcome within a statement -/
def R.st {α : Type} (r : R α) (s : Sl) (f : α → Mu → SR) : SR := match r with
  | .ok a m => f a m
  | .ex x m => .ex x s m
  | .bad => .bad
def forL (fg : List Nat) (body : D → Sl → Mu → SR) : List D → Sl → Mu → SR
  | [], s, m => .nx s m
  | d :: ds, s, m => (match body d s m with
    | .nx s1 m1 => forL fg body ds (wipeS s1 fg) m1
    | .ct s1 m1 => forL fg body ds (wipeS s1 fg) m1
    | .bk s1 m1 => .nx (wipeS s1 fg) m1
    | .rt v m1 => .rt v m1
    | .ex x s1 m1 => .ex x s1 m1
    | .bad => .bad)
def whlL (fg : List Nat) (c : Sl → Mu → R Bool) (body : Sl → Mu → SR) : Nat → Sl → Mu → SR
  | 0, _, _ => .bad
  | n + 1, s, m => (c s m).st s fun t m1 => if t = true then (match body s m1 with
    | .nx s1 m2 => whlL fg c body n (wipeS s1 fg) m2
    | .ct s1 m2 => whlL fg c body n (wipeS s1 fg) m2
    | .bk s1 m2 => .nx (wipeS s1 fg) m2
    | .rt v m2 => .rt v m2
    | .ex x s1 m2 => .ex x s1 m2
    | .bad => .bad) else .nx s m1
/-- a container is changed: its new content, what the method answers -/
def opM : OM → Cell → List D → Option (Cell × D)
  | .append, .lst ds, [d] => if ds.length < sizeLine then some (.lst (ds ++ [d]), .non) else none
  | .insert, .lst ds, [.int i, d] => if ds.length < sizeLine ∧ r63 i = true then some (.lst (ds.take i.toNat ++ [d] ++ ds.drop i.toNat), .non) else none
  | .pop, .lst ds, [] => (match ds[ds.length - 1]? with | some d => some (.lst ds.dropLast, d) | none => none)
  | .popAt, .lst ds, [.int i] => if rs63 i = true then (match seqIndex? i ds.length with
    | some k => (match ds[k]? with | some d => some (.lst (ds.eraseIdx k), d) | none => none)
    | none => none) else none
  | .reverse, .lst ds, [] => some (.lst ds.reverse, .non)
  | .clear, .lst _, [] => some (.lst [], .non)
  | _, _, _ => none
def opSet : Cell → D → D → Option Cell
  | .lst ds, .int i, d => (match ixN ds.length i with | some j => some (.lst (ds.set j d)) | none => none)
  | .dk ks ds, .int i, d => if ks.length < sizeLine then some (.dk (putKN (.inl i) ks) (putKD (.inl i) d ks ds)) else none
  | .dk ks ds, .str i, d => if ks.length < sizeLine then some (.dk (putKN (.inr i) ks) (putKD (.inr i) d ks ds)) else none
  | .dt ks ds, .tup y, d => (match keysD y with | some k => if ks.length < sizeLine then some (.dt (putKN k ks) (putKD k d ks ds)) else none | none => none)
  | _, _, _ => none
def opFld (flds : List (Str × List Str)) (f : Str) (d : D) : Cell → Option Cell
  | .ins c ns ds => (match flds.lookup c with
    | some fl => if f ∈ fl ∧ ns.length < 1000 then some (.ins c (putFN f ns) (putFD f d ns ds)) else none
    | none => none)
  | _ => none
/-- the container at a slot (one's own, or a shared one) is changed -/
def chg {α : Type} (i : Nat) (s : Sl) (m : Mu) (f : Cell → Option (Cell × α)) (k : α → Sl → Mu → SR) : SR := match s[i]? with
  | some (some (.own c)) => (match f c with | some (c', a) => k a (s.set i (some (.own c'))) m | none => .bad)
  | some (some (.val (.ref j))) => (match m[j]? with
    | some c => (match f c with | some (c', a) => k a s (m.set j c') | none => .bad)
    | none => .bad)
  | _ => .bad
/-- at the slot stands a list of one's own -/
def isL (s : Sl) (i : Nat) : Bool := match s[i]? with
  | some (some (.own (.lst _))) => true
  | _ => false
/-- at the slot stands a container of one's own -/
def isO (s : Sl) (i : Nat) : Bool := match s[i]? with
  | some (some (.own _)) => true
  | _ => false
def chgO {α : Type} (i : Nat) (s : Sl) (m : Mu) (f : Cell → Option (Cell × α)) (k : α → Sl → Mu → SR) : SR := match s[i]? with
  | some (some (.own c)) => (match f c with | some (c', a) => k a (s.set i (some (.own c'))) m | none => .bad)
  | _ => .bad
def hiV (x : Exn) (c : Str) : HI → Option D
  | .str y => some (.str y)
  | .int n => some (.int n)
  | .fld f => if x.c = c then (x.ns.zip x.ds).lookup f else none
def hiL (x : Exn) (c : Str) : List HI → Option (List D)
  | [] => some []
  | i :: l => (hiV x c i).bind fun d => (hiL x c l).map fun ds => d :: ds
def nmOk (h : Hc) (s : Sl) : Bool := match h.nm with
  | some i => decide (i < s.length)
  | none => true
/-- the clauses, one after the other -/
def hdS (G : Prog) (x : Exn) : List Hc → Sl → Mu → SR
  | [], s, m => .ex x s m
  | h :: hs, s, m => (match G.exm.lookup (x.c, h.cls) with
    | some true => if nmOk h s = true then (match h.su with
      | .retL l => (match hiL x h.cls l with
        | some ds => if ds.length ≤ sizeLine then .rt (.own (.lst ds)) m else .bad
        | none => .bad)
      | .retB b => .rt (.val (.bl b)) m) else .bad
    | some false => hdS G x hs s m
    | none => .bad)
noncomputable section
variable (G : Prog) (cf : Nat → List D → Mu → R SV)
mutual
def evS : S → Sl → Mu → SR
  | .ex e, s, m => (evE G cf e s m).st s fun _ m1 => .nx s m1
  | .rse c e, s, m => (evE G cf e s m).st s fun x m1 => (match G.exs.lookup c with | some f => .ex ⟨c, [f], [x.fz]⟩ s m1 | none => .bad)
  | .try_ b hs, s, m => (match evSs b s m with
    | .ex x s1 m1 => hdS G x hs s1 m1
    | .nx s1 m1 => .nx s1 m1
    | .rt v m1 => .rt v m1
    | .bk s1 m1 => .bk s1 m1
    | .ct s1 m1 => .ct s1 m1
    | .bad => .bad)
  | .mov i j, s, m => if i = j then .bad else (match s[j]? with | some (some (.own c)) => .nx ((s.set j none).set i (some (.own c))) m | _ => .bad)
  | .asg t e, s, m => (evE G cf e s m).st s fun x m1 => (match bindT s t x.fz with | some s1 => .nx s1 m1 | none => .bad)
  | .asgO i e, s, m => (evE G cf e s m).st s fun x m1 => (match x with | .own c => .nx (s.set i (some (.own c))) m1 | _ => .bad)
  | .asgM i e, s, m => (evE G cf e s m).st s fun x m1 => (match x with | .own c => .nx (s.set i (some (.val (.ref m1.length)))) (m1 ++ [c]) | _ => .bad)
  | .aug i o e, s, m => (match s[i]? with
    | some (some (.val (.int a))) => (evE G cf e s m).st s fun y m1 => (match o, y.fz with
      | .add, .int b => .nx (s.set i (some (.val (.int (a + b))))) m1
      | .sub, .int b => .nx (s.set i (some (.val (.int (a - b))))) m1
      | _, _ => .bad)
    | _ => .bad)
  | .om i f es, s, m => if isL s i = true then (evEs G cf es s m).st s fun ds m1 => chgO i s m1 (fun c => opM f c ds) fun _ s1 m2 => .nx s1 m2 else .bad
  | .omr t i f es, s, m => if isL s i = true then (evEs G cf es s m).st s fun ds m1 => chgO i s m1 (fun c => opM f c ds) fun d s1 m2 => .nx (s1.set t (some (.val d))) m2 else .bad
  | .seti i a e, s, m => if isO s i = true then (evE G cf e s m).st s fun x m1 => (evE G cf a s m1).st s fun y m2 => chgO i s m2 (fun c => (opSet c y.fz x.fz).map fun c' => (c', ())) fun _ s1 m3 => .nx s1 m3 else .bad
  | .setf i f e, s, m => (evE G cf e s m).st s fun x m1 => chg i s m1 (fun c => (opFld G.flds f x.fz c).map fun c' => (c', ())) fun _ s1 m2 => .nx s1 m2
  | .ret e, s, m => (evE G cf e s m).st s fun x m1 => .rt x m1
  | .retS i, s, m => (match s[i]? with | some (some (.own c)) => .rt (.own c) m | _ => .bad)
  | .retN, _, m => .rt (.val .non) m
  | .ife c a b, s, m => (evB G cf c s m).st s fun t m1 => if t = true then evSs a s m1 else evSs b s m1
  | .for_ t it body fg, s, m => (evI G cf it s m).st s fun ds m1 => forL fg (fun d s1 m2 => match bindT s1 t d with | some s2 => evSs body s2 m2 | none => .bad) ds s m1
  | .whl n c body fg, s, m => whlL fg (fun s m => evB G cf c s m) (fun s m => evSs body s m) n s m
  | .pass, s, m => .nx s m
  | .brk, s, m => .bk s m
  | .cont, s, m => .ct s m
  | .never, _, _ => .bad
  | .gfz i, s, m => (match s[i]? with | some (some (.own c)) => .nx (s.set i (some (.val c.fz))) m | _ => .bad)
  | .gfg is, s, m => .nx (wipeS s is) m
def evSs : Ss → Sl → Mu → SR
  | .nil, s, m => .nx s m
  | .cons st r, s, m => (evS st s m).then_ fun s1 m1 => evSs r s1 m1
end
end
def SR.back : SR → R SV
  | .nx _ m => .ok (.val .non) m
  | .rt v m => .ok v m
  | .ex x _ m => .ex x m
  | _ => .bad
def fill (f : Fn) (ds : List D) : List D := ds ++ f.dfl.drop (ds.length + f.dfl.length - f.ps.length)
def start0 (f : Fn) (ds : List D) : Sl := ds.map (fun d => some (.val d)) ++ List.replicate (f.N.length - ds.length) none
noncomputable def callN (G : Prog) : Nat → Nat → List D → Mu → R SV
  | 0, _, _, _ => .bad
  | n + 1, k, ds, m => (match G.fns[k]? with
    | some f => if (fill f ds).length = f.ps.length then (evSs G (callN G n) f.body (start0 f (fill f ds)) m).back else .bad
    | none => .bad)
end Dp
end

section
set_option Elab.async false
set_option linter.all false
set_option maxRecDepth 100000
set_option maxHeartbeats 1000000
/-! The deep layer, part 4: the rules of expressions. -/
namespace Dp
open PySem PySem.Spec PyProof.Rows L2

/-- an operand that is read -/
def VwAt (K : PySem.W.Frag) (mg : Str → Option Value) (W' : Wd) (_ H' : Hp) (d : D) (v : V) : Prop := Rep K mg W' d v ∨ ∃ (c : Cell) (a : Addr), d = c.fz ∧ v = V.ref a ∧ Own K mg W' H' a c
inductive VwsAt (K : PySem.W.Frag) (mg : Str → Option Value) (W' : Wd) (H H' : Hp) : List D → List V → Prop where
  | nil : VwsAt K mg W' H H' [] []
  | cons {d : D} {v : V} {ds : List D} {vs : List V} : VwAt K mg W' H H' d v → VwsAt K mg W' H H' ds vs → VwsAt K mg W' H H' (d :: ds) (v :: vs)
/-- .. with the shared cells seen -/
def Vw (K : PySem.W.Frag) (mg : Str → Option Value) (W : Wd) (H : Hp) (d : D) (v : V) : Prop := Rep K mg W d v ∨ ∃ (c : Cell) (a : Addr), d = c.fz ∧ v = V.ref a ∧ CellAt K mg W H a c
section
variable {K : PySem.W.Frag} {mg : Str → Option Value} {W W2 : Wd} {H H0 H1 H2 : Hp} {d : D} {v : V} {m : Mu}
theorem VwAt.step (h : VwAt K mg W H0 H d v) (p : Step W H W2 H2) : VwAt K mg W2 H1 H2 d v := by
  rcases h with h | ⟨c, a, e1, e2, o⟩
  · exact .inl (Rep.mono p.le d v h)
  · exact .inr ⟨c, a, e1, e2, o.step p⟩
theorem VwsAt.step {ds : List D} {vs : List V} (h : VwsAt K mg W H0 H ds vs) (p : Step W H W2 H2) : VwsAt K mg W2 H1 H2 ds vs := by
  induction h with
  | nil => exact .nil
  | cons h _ ih => exact .cons (h.step p) ih
theorem VwsAt.any {ds : List D} {vs : List V} (h : VwsAt K mg W H0 H ds vs) : VwsAt K mg W H1 H ds vs := by
  induction h with
  | nil => exact .nil
  | cons h _ ih => exact .cons h ih
theorem rb_vw : Rb K mg (VwAt K mg) := fun _ _ _ _ _ _ _ _ _ _ _ _ h => h
theorem rb_vws : Rb K mg (VwsAt K mg) := fun W H W1 H1 m1 W' H' a b x1 p q h => by
  induction h with
  | nil => exact .nil
  | cons h _ ih => exact .cons h ih
theorem see_fz (m : Mu) (c : Cell) : seeD m c.fz = c.fz := by cases c <;> rfl
theorem see (x : St0 K mg W m H) (h : VwAt K mg W H0 H d v) : Vw K mg W H (seeD m d) v := by
  rcases h with h | ⟨c, a, rfl, e2, o⟩
  · cases d with
    | ref i =>
      obtain ⟨a, e, ha⟩ := h
      have hi : i < m.length := by rw [← x.len]; exact (List.getElem?_eq_some_iff.mp ha).1
      show Vw K mg W H (match m[i]? with | some c => c.fz | none => .ref i) v
      rw [List.getElem?_eq_getElem hi]
      exact .inr ⟨m[i], a, rfl, e, x.cell i a m[i] ha (List.getElem?_eq_getElem hi)⟩
    | _ => exact .inl h
  · rw [see_fz]
    exact .inr ⟨c, a, rfl, e2, o.at_⟩
theorem see_rep (x : St0 K mg W m H) (h : Rep K mg W d v) : Vw K mg W H (seeD m d) v := see (H0 := H) x (.inl h)
theorem Vw.rep (h : Rep K mg W d v) : Vw K mg W H d v := .inl h
theorem Vw.int {i : Int} (h : Vw K mg W H (.int i) v) : v = .int i := by
  rcases h with h | ⟨c, a, e, _⟩
  · exact h
  · cases c <;> cases e
theorem Vw.bl {i : Bool} (h : Vw K mg W H (.bl i) v) : v = .bl i := by
  rcases h with h | ⟨c, a, e, _⟩
  · exact h
  · cases c <;> cases e
theorem Vw.str {i : Str} (h : Vw K mg W H (.str i) v) : v = .str i := by
  rcases h with h | ⟨c, a, e, _⟩
  · exact h
  · cases c <;> cases e
theorem Vw.non (h : Vw K mg W H .non v) : v = .non := by
  rcases h with h | ⟨c, a, e, _⟩
  · exact h
  · cases c <;> cases e
theorem Vw.tup {ds : List D} (x : Same W.Hf H) (h : Vw K mg W H (.tup ds) v) : ∃ a vs, v = .ref a ∧ SqT K H a vs ∧ Reps K mg W ds vs := by
  rcases h with ⟨a, vs, e, h, r⟩ | ⟨c, a, e, _⟩
  · exact ⟨a, vs, e, SqT.of (x _ _ h), r⟩
  · cases c <;> cases e
theorem Vw.tupR {ds : List D} (h : Vw K mg W H (.tup ds) v) : Rep K mg W (.tup ds) v := by
  rcases h with h | ⟨c, a, e, _⟩
  · exact h
  · cases c <;> cases e
theorem Vw.seq {ds : List D} (x : Same W.Hf H) (h : Vw K mg W H (.seq ds) v) : ∃ a vs, v = .ref a ∧ SqL K H a vs ∧ Reps K mg W ds vs := by
  rcases h with ⟨a, vs, e, h, r⟩ | ⟨c, a, e, _⟩
  · exact ⟨a, vs, e, x.seq h, r⟩
  · cases c <;> cases e
theorem Vw.lst {ds : List D} (x : Same W.Hf H) (h : Vw K mg W H (.lst ds) v) : ∃ a vs, v = .ref a ∧ H a = some (.lst vs) ∧ Reps K mg W ds vs := by
  rcases h with ⟨a, vs, e, h, r⟩ | ⟨c, a, e, e2, o⟩
  · exact ⟨a, vs, e, x _ _ h, r⟩
  · cases c <;> cases e
    obtain ⟨vs, e3, r⟩ := o
    exact ⟨a, vs, e2, e3, r⟩
theorem Vw.dk {ks : List Key} {ds : List D} (x : Same W.Hf H) (h : Vw K mg W H (.dk ks ds) v) : ∃ a vs, v = .ref a ∧ H a = some (.dK (ks.zip vs)) ∧ ks.length = ds.length ∧ Reps K mg W ds vs := by
  rcases h with ⟨a, vs, e, h, n, r⟩ | ⟨c, a, e, e2, o⟩
  · exact ⟨a, vs, e, x _ _ h, n, r⟩
  · cases c <;> cases e
    obtain ⟨vs, e3, n, r⟩ := o
    exact ⟨a, vs, e2, e3, n, r⟩
theorem Vw.dt {ks : List (List Key)} {ds : List D} (x : Same W.Hf H) (h : Vw K mg W H (.dt ks ds) v) : ∃ a vs, v = .ref a ∧ H a = some (.dT (ks.zip vs)) ∧ ks.length = ds.length ∧ Reps K mg W ds vs := by
  rcases h with ⟨a, vs, e, h, n, r⟩ | ⟨c, a, e, e2, o⟩
  · exact ⟨a, vs, e, x _ _ h, n, r⟩
  · cases c <;> cases e
    obtain ⟨vs, e3, n, r⟩ := o
    exact ⟨a, vs, e2, e3, n, r⟩
theorem Vw.ins {c : Str} {ns : List Str} {ds : List D} (x : Same W.Hf H) (h : Vw K mg W H (.ins c ns ds) v) : ∃ a dx vs, v = .ref a ∧ H a = some (.ins (He.ga K c) dx (ns.zip vs)) ∧ ns.length = ds.length ∧ Reps K mg W ds vs := by
  rcases h with ⟨a, dx, vs, e, h, n, r⟩ | ⟨c, a, e, e2, o⟩
  · exact ⟨a, dx, vs, e, x _ _ h, n, r⟩
  · cases c <;> cases e
    obtain ⟨dx, vs, e3, n, r⟩ := o
    exact ⟨a, dx, vs, e2, e3, n, r⟩
end

section
variable {X : Cx} {Wx : WX}
abbrev tS (X : Cx) (Wx : WX) (f : Sl → Mu → R SV) : TE := tG X.K X.mg (SvAt X.K X.mg) Wx f
abbrev tP (X : Cx) (Wx : WX) (f : Sl → Mu → R D) : TE := tG X.K X.mg (VwAt X.K X.mg) Wx f
abbrev tL (X : Cx) (Wx : WX) (f : Sl → Mu → R (List D)) : TA := tG X.K X.mg (LsAt X.K X.mg) Wx f
abbrev tLP (X : Cx) (Wx : WX) (f : Sl → Mu → R (List D)) : TA := tG X.K X.mg (VwsAt X.K X.mg) Wx f
abbrev tT (X : Cx) (Wx : WX) (f : Sl → Mu → R Bool) : TT := tG X.K X.mg (fun W H H' => BlAt W H H') Wx f
theorem pe_imp {e : Expr} {t t' : TE} (h : PE X e t) (i : ∀ σ H Q, t' σ H Q → t σ H Q) : PE X e t' := ⟨fun pins s σ H Q I hw => h.run pins s σ H Q I (i _ _ _ hw)⟩
theorem pt_imp {e : Expr} {t t' : TT} (h : PT X e t) (i : ∀ σ H Q, t' σ H Q → t σ H Q) : PT X e t' := ⟨fun pins s σ H Q I hw => h.run pins s σ H Q I (i _ _ _ hw)⟩
theorem pw_imp {e : Expr} {t t' : TT} (h : PW X e t) (i : ∀ σ H Q, t' σ H Q → t σ H Q) : PW X e t' := ⟨fun wh pins s σ H Q I hw => h.run wh pins s σ H Q I (i _ _ _ hw)⟩
theorem pa_imp {e : List Expr} {t t' : TA} (h : PA X e t) (i : ∀ σ H Q, t' σ H Q → t σ H Q) : PA X e t' := ⟨fun pos pins s σ H Q I hw => h.run pos pins s σ H Q I (i _ _ _ hw)⟩
theorem ps_imp {e : Stmt} {t t' : TS} (h : PS X e t) (i : ∀ D σ H, t' D σ H → t D σ H) : PS X e t' := ⟨fun pins s σ H Q I hw => h.run pins s σ H Q I (i _ _ _ hw)⟩

/-! ### constants and names -/
theorem de_c {e : Expr} {v : V} {d : D} (h : PE X e (tC v)) (r : ∀ W : Wd, Rep X.K X.mg W d v) : PE X e (tS X Wx fun _ m => .ok (.val d) m) :=
  pe_imp h fun σ H Q ⟨W, s, m, hs, o⟩ => o.fin hs.toSt0 (r W)
theorem de_var {i : Nat} {x : Str} {pos : Pos} (h : PE X (.Name x pos) (tVar i)) : PE X (.Name x pos) (tS X Wx fun s m => match s[i]? with | some (some (.val d)) => .ok (.val d) m | _ => .bad) := by
  refine pe_imp h fun σ H Q ⟨W, s, m, hs, o⟩ => ?_
  revert o
  dsimp only
  split
  · rename_i d e
    intro o
    obtain ⟨v, e1, r⟩ := hs.slot i d e
    exact ⟨v, e1, o.fin hs.toSt0 r⟩
  · exact fun o => o.elim
/-- a container of one's own is read -/
theorem dp_sl {i : Nat} {x : Str} {pos : Pos} (h : PE X (.Name x pos) (tVar i)) : PE X (.Name x pos) (tP X Wx fun s m => match s[i]? with | some (some (.own c)) => .ok c.fz m | _ => .bad) := by
  refine pe_imp h fun σ H Q ⟨W, s, m, hs, o⟩ => ?_
  revert o
  dsimp only
  split
  · rename_i c e
    intro o
    obtain ⟨a, e1, r⟩ := hs.own i c e
    exact ⟨_, e1, o.fin hs.toSt0 (.inr ⟨c, a, rfl, rfl, r⟩)⟩
  · exact fun o => o.elim
theorem dp_e {e : Expr} {f : Sl → Mu → R SV} (h : PE X e (tS X Wx f)) : PE X e (tP X Wx fun s m => (f s m).bind fun x m1 => .ok x.fz m1) :=
  pe_imp h fun σ H Q ⟨W, s, m, hs, o⟩ => runz rb_vw hs o fun a m1 W1 v H1 h1 p1 r o1 => o1.fin h1.toSt0 (.inl r)

/-! ### operators -/
def boOp : BO → Operator
  | .add => .Add | .sub => .Sub | .mul => .Mult | .fdiv => .FloorDiv | .mod => .Mod | .pow => .Pow | .band => .BitAnd
/-- what is to be shown of an operator by values -/
def OpOk (X : Cx) (Wx : WX) (f : Value → Value → Sem Value) (g : D → D → Mu → R SV) : Prop :=
  ∃ r : R2, OpR X f r ∧ ∀ (W : Wd) (m : Mu) (σ : L2.St) (H : Hp) (Q : VK) (x y : D) (v u : V), St0 X.K X.mg W m H → Vw X.K X.mg W H x v → Vw X.K X.mg W H y u → OutG X.K X.mg (SvAt X.K X.mg) Wx W H σ (g x y m) Q → r v u H Q
theorem guard_t {α : Type} {b : Bool} {r : R α} {A : Wd → Hp → Hp → α → V → Prop} {K : PySem.W.Frag} {mg : Str → Option Value} {W : Wd} {H : Hp} {σ : L2.St} {Q : VK} (o : OutG K mg A Wx W H σ (guardR b r) Q) : b = true ∧ OutG K mg A Wx W H σ r Q := by
  cases b with
  | true => exact ⟨rfl, o⟩
  | false => exact o.elim
theorem tup_new {K : PySem.W.Frag} {mg : Str → Option Value} {W : Wd} {m : Mu} {σ : L2.St} {H : Hp} {Q : VK} {ds : List D} {vs : List V} (x : St0 K mg W m H) (r : Reps K mg W ds vs)
    (o : OutG K mg (SvAt K mg) Wx W H σ (.ok (.val (.tup ds)) m) Q) : ∀ p, H p = none → Q (.ref p) (upd H p (.tup vs)) := fun p hp => by
  obtain ⟨x2, p2⟩ := x.laid hp (.tup vs)
  exact o.fin2 x2 p2 ⟨p, vs, rfl, upd_same, Reps.mono p2.le _ _ r⟩
theorem own_new {K : PySem.W.Frag} {mg : Str → Option Value} {W : Wd} {m : Mu} {σ : L2.St} {H : Hp} {Q : VK} {c : Cell} {u : HO} (x : St0 K mg W m H) (r : ∀ p, CellAt K mg W (upd H p u) p c)
    (o : OutG K mg (SvAt K mg) Wx W H σ (.ok (.own c) m) Q) : ∀ p, H p = none → Q (.ref p) (upd H p u) := fun p hp => by
  obtain ⟨x2, p2, n1, n2⟩ := x.made hp u
  exact o.fin2 x2 p2 ⟨p, rfl, ⟨r p, n1, n2⟩, hp⟩
theorem reps_nil {K : PySem.W.Frag} {mg : Str → Option Value} {W : Wd} {ds : List D} (r : Reps K mg W ds []) : ds = [] := by
  cases ds with
  | nil => rfl
  | cons d ds => obtain ⟨v, t, e, _⟩ := r; cases e
theorem reps_rep {K : PySem.W.Frag} {mg : Str → Option Value} {W : Wd} {ds : List D} {vs : List V} (r : Reps K mg W ds vs) : ∀ n : Nat, Reps K mg W (List.replicate n ds).flatten (List.replicate n vs).flatten
  | 0 => Reps.nil
  | n + 1 => by
    rw [List.replicate_succ, List.replicate_succ, List.flatten_cons, List.flatten_cons]
    exact r.append (reps_rep r n)
theorem opB_ok (o : BO) : OpOk X Wx (binaryOp (boOp o)) (opB o) := by
  cases o with
  | add =>
    refine ⟨_, op_add.or (op_catA.or (op_cat.or op_add_str)), fun W m σ H Q x y v u st hx hy o => ?_⟩
    cases x <;> cases y <;> try exact o.elim
    · exact .inl ⟨_, _, hx.int, hy.int, o.fin st rfl⟩
    · obtain ⟨g, o⟩ := guard_t o
      exact .inr (.inr (.inr ⟨_, _, hx.str, hy.str, of_decide_eq_true g, o.fin st rfl⟩))
    · obtain ⟨g, o⟩ := guard_t o
      have g := of_decide_eq_true g
      have hx' := hx.tupR
      have hy' := hy.tupR
      obtain ⟨a, vs, rfl, ha, ra⟩ := hx.tup st.sub
      obtain ⟨b, us, rfl, hb, rb⟩ := hy.tup st.sub
      rw [ra.length, rb.length] at g
      refine .inr (.inl ⟨a, b, vs, us, rfl, rfl, ha, hb, g, fun e => ?_, fun _ e => ?_, fun _ _ => ?_⟩)
      · subst e
        rw [reps_nil ra, List.nil_append] at o
        exact o.fin st hy'
      · subst e
        rw [reps_nil rb, List.append_nil] at o
        exact o.fin st hx'
      · exact tup_new st (ra.append rb) o
    · obtain ⟨g, o⟩ := guard_t o
      obtain ⟨a, vs, rfl, ha, ra⟩ := hx.lst st.sub
      obtain ⟨b, us, rfl, hb, rb⟩ := hy.lst st.sub
      have g := of_decide_eq_true g
      rw [ra.length, rb.length] at g
      exact .inr (.inr (.inl ⟨a, b, vs, us, rfl, rfl, ha, hb, g, own_new (c := .lst _) st (fun p => ⟨_, upd_same, ra.append rb⟩) o⟩))
  | sub =>
    refine ⟨_, op_sub, fun W m σ H Q x y v u st hx hy o => ?_⟩
    cases x <;> cases y <;> try exact o.elim
    exact ⟨_, _, hx.int, hy.int, o.fin st rfl⟩
  | mul =>
    refine ⟨_, op_mul.or (op_rep.or op_repT), fun W m σ H Q x y v u st hx hy o => ?_⟩
    cases x <;> cases y <;> try exact o.elim
    · obtain ⟨g, o⟩ := guard_t o
      refine .inl ⟨_, _, hx.int, hy.int, ?_, o.fin st rfl⟩
      unfold small64 at g
      simp only [Bool.or_eq_true, Bool.and_eq_true, decide_eq_true_eq] at g
      exact g
    · obtain ⟨g, o⟩ := guard_t o
      obtain ⟨a, vs, rfl, ha, ra⟩ := hx.tup st.sub
      simp only [Bool.and_eq_true, decide_eq_true_eq, Bool.not_eq_true'] at g
      obtain ⟨g1, g2, g3, g4⟩ := g
      rw [ra.length] at g4
      exact .inr (.inr ⟨a, _, vs, rfl, hy.int, ha, (fun e => by subst e; rw [reps_nil ra] at g1; cases g1), g2, g3, g4, tup_new st (reps_rep ra _) o⟩)
    · obtain ⟨g, o⟩ := guard_t o
      obtain ⟨a, vs, rfl, ha, ra⟩ := hx.lst st.sub
      simp only [Bool.and_eq_true, decide_eq_true_eq] at g
      obtain ⟨g1, g2, g3⟩ := g
      rw [ra.length] at g3
      exact .inr (.inl ⟨a, _, vs, rfl, hy.int, ha, g1, g2, g3, own_new (c := .lst _) st (fun p => ⟨_, upd_same, reps_rep ra _⟩) o⟩)
  | fdiv =>
    refine ⟨_, op_fdiv, fun W m σ H Q x y v u st hx hy o => ?_⟩
    cases x <;> cases y <;> try exact o.elim
    obtain ⟨g, o⟩ := guard_t o
    simp only [Bool.and_eq_true, decide_eq_true_eq] at g
    exact ⟨_, _, hx.int, hy.int, g, o.fin st rfl⟩
  | mod =>
    refine ⟨_, op_mod, fun W m σ H Q x y v u st hx hy o => ?_⟩
    cases x <;> cases y <;> try exact o.elim
    obtain ⟨g, o⟩ := guard_t o
    exact ⟨_, _, hx.int, hy.int, of_decide_eq_true g, o.fin st rfl⟩
  | pow =>
    refine ⟨_, op_pow, fun W m σ H Q x y v u st hx hy o => ?_⟩
    cases x <;> cases y <;> try exact o.elim
    obtain ⟨g, o⟩ := guard_t o
    simp only [Bool.and_eq_true, decide_eq_true_eq] at g
    exact ⟨_, _, hx.int, hy.int, g, o.fin st rfl⟩
  | band =>
    refine ⟨_, op_and, fun W m σ H Q x y v u st hx hy o => ?_⟩
    cases x <;> cases y <;> try exact o.elim
    exact ⟨_, _, hx.int, hy.int, o.fin st rfl⟩
theorem de_bin {o : BO} {a b : Expr} {pos : Pos} {fa fb : Sl → Mu → R D} (ha : PE X a (tP X Wx fa)) (hb : PE X b (tP X Wx fb)) :
    PE X (.BinOp a (boOp o) b pos) (tS X Wx fun s m => (fa s m).bind fun x m1 => (fb s m1).bind fun y m2 => opB o (seeD m2 x) (seeD m2 y) m2) := by
  obtain ⟨r, hr, hq⟩ := opB_ok (X := X) (Wx := Wx) o
  refine pe_imp (pe_op hr ha hb) fun σ H Q ⟨W, s, m, hs, o⟩ => ?_
  refine run rb_sv hs o fun x m1 W1 v H1 _ h1 p1 av o1 => ?_
  refine run rb_sv h1 o1 fun y m2 W2 u H2 _ h2 p2 bv o2 => ?_
  exact hq W2 m2 σ H2 Q _ _ v u h2.toSt0 (see (H0 := H1) h2.toSt0 (av.step p2)) (see h2.toSt0 bv) o2
end
end Dp
end

section
set_option Elab.async false
set_option linter.all false
set_option maxRecDepth 100000
set_option maxHeartbeats 1000000
/-! The deep layer, part 5: comparisons, tests, displays, subscripts, slices. -/
namespace Dp
open PySem PySem.Spec PyProof.Rows L2

/-! ### data as the library's -/
section
variable {K : PySem.W.Frag} {mg : Str → Option Value} {W : Wd} {H : Hp}
mutual
theorem rep_dp (x : Same W.Hf H) : ∀ (d : D) (v : V) (p : PyData), Rep K mg W d v → D.py d = some p → Dp K H v p
  | .non, _, _, h, e => by
    cases h
    cases e
    exact .non
  | .bl b, _, _, h, e => by
    cases h
    cases e
    exact .bl b
  | .int i, _, _, h, e => by
    cases h
    cases e
    exact .int i
  | .str z, _, _, h, e => by
    cases h
    cases e
    exact .str z
  | .tup ds, _, p, ⟨a, vs, e1, h, r⟩, e => by
    subst e1
    unfold D.py at e
    obtain ⟨ps, e2, e3⟩ := Option.map_eq_some_iff.mp e
    subst e3
    exact .tup (SqT.of (x _ _ h)) (reps_dp x ds vs ps r e2)
  | .lst ds, _, p, ⟨a, vs, e1, h, r⟩, e => by
    subst e1
    unfold D.py at e
    obtain ⟨ps, e2, e3⟩ := Option.map_eq_some_iff.mp e
    subst e3
    exact .lst (SqL.of (x _ _ h)) (reps_dp x ds vs ps r e2)
  | .seq ds, _, p, ⟨a, vs, e1, h, r⟩, e => by
    subst e1
    unfold D.py at e
    obtain ⟨ps, e2, e3⟩ := Option.map_eq_some_iff.mp e
    subst e3
    exact .lst (x.seq h) (reps_dp x ds vs ps r e2)
  | .dk _ _, _, _, _, e => by cases e
  | .dt _ _, _, _, _, e => by cases e
  | .ins _ _ _, _, _, _, e => by cases e
  | .ref _, _, _, _, e => by cases e
  | .gl _, _, _, _, e => by cases e
theorem reps_dp (x : Same W.Hf H) : ∀ (ds : List D) (vs : List V) (ps : List PyData), Reps K mg W ds vs → D.pys ds = some ps → DpAll K H vs ps
  | [], _, _, h, e => by
    cases h
    cases e
    exact .nil
  | d :: ds, _, ps, ⟨v, r, e1, h, t⟩, e => by
    subst e1
    unfold D.pys at e
    obtain ⟨q, e2, e3⟩ := Option.bind_eq_some_iff.mp e
    obtain ⟨qs, e4, e5⟩ := Option.map_eq_some_iff.mp e3
    subst e5
    exact .cons (rep_dp x d v q h e2) (reps_dp x ds r qs t e4)
end
theorem vw_dp {d : D} {v : V} {p : PyData} (x : Same W.Hf H) (h : Vw K mg W H d v) (e : D.py d = some p) : Dp K H v p := by
  rcases h with h | ⟨c, a, rfl, rfl, o⟩
  · exact rep_dp x d v p h e
  · cases c with
    | lst ds =>
      obtain ⟨vs, e3, r⟩ := o
      have e' : (D.pys ds).map PyData.list = some p := e
      obtain ⟨ps, e2, e4⟩ := Option.map_eq_some_iff.mp e'
      subst e4
      exact .lst (SqL.of e3) (reps_dp x ds vs ps r e2)
    | _ => cases e
theorem isNon_ok : ∀ {d : D}, isNon d = true → d = .non
  | .non, _ => rfl
theorem vw_non {d : D} {v : V} (h : Vw K mg W H d v) : decide (v = .non) = isNon d := by
  rcases h with h | ⟨c, a, rfl, rfl, o⟩
  · cases d with
    | non => cases h; rfl
    | bl b => cases h; rfl
    | int i => cases h; rfl
    | str i => cases h; rfl
    | ref i => obtain ⟨a, e, _⟩ := h; subst e; rfl
    | gl i => obtain ⟨a, e, _⟩ := h; subst e; rfl
    | ins _ _ _ => obtain ⟨a, dx, vs, e, _⟩ := h; subst e; rfl
    | tup _ => obtain ⟨a, vs, e, _⟩ := h; subst e; rfl
    | lst _ => obtain ⟨a, vs, e, _⟩ := h; subst e; rfl
    | seq _ => obtain ⟨a, vs, e, _⟩ := h; subst e; rfl
    | dk _ _ => obtain ⟨a, vs, e, _⟩ := h; subst e; rfl
    | dt _ _ => obtain ⟨a, vs, e, _⟩ := h; subst e; rfl
  · cases c <;> rfl
theorem nums_vals : ∀ {ds : List D} {vs : List V} {l : List Int}, Reps K mg W ds vs → D.nums ds = some l → vs = l.map V.int
  | [], _, _, h, e => by
    cases h
    cases e
    rfl
  | .int i :: ds, _, l, ⟨v, r, e1, h, t⟩, e => by
    unfold D.nums at e
    obtain ⟨q, e2, e3⟩ := Option.map_eq_some_iff.mp e
    subst e1 e3
    cases h
    rw [nums_vals t e2]
    rfl
  | .non :: _, _, _, _, e => by cases e
  | .bl _ :: _, _, _, _, e => by cases e
  | .str _ :: _, _, _, _, e => by cases e
  | .tup _ :: _, _, _, _, e => by cases e
  | .lst _ :: _, _, _, _, e => by cases e
  | .seq _ :: _, _, _, _, e => by cases e
  | .dk _ _ :: _, _, _, _, e => by cases e
  | .dt _ _ :: _, _, _, _, e => by cases e
  | .ins _ _ _ :: _, _, _, _, e => by cases e
  | .ref _ :: _, _, _, _, e => by cases e
  | .gl _ :: _, _, _, _, e => by cases e
theorem bls_vals : ∀ {ds : List D} {vs : List V} {l : List Bool}, Reps K mg W ds vs → D.bls ds = some l → vs = l.map V.bl
  | [], _, _, h, e => by
    cases h
    cases e
    rfl
  | .bl i :: ds, _, l, ⟨v, r, e1, h, t⟩, e => by
    unfold D.bls at e
    obtain ⟨q, e2, e3⟩ := Option.map_eq_some_iff.mp e
    subst e1 e3
    cases h
    rw [bls_vals t e2]
    rfl
  | .non :: _, _, _, _, e => by cases e
  | .int _ :: _, _, _, _, e => by cases e
  | .str _ :: _, _, _, _, e => by cases e
  | .tup _ :: _, _, _, _, e => by cases e
  | .lst _ :: _, _, _, _, e => by cases e
  | .seq _ :: _, _, _, _, e => by cases e
  | .dk _ _ :: _, _, _, _, e => by cases e
  | .dt _ _ :: _, _, _, _, e => by cases e
  | .ins _ _ _ :: _, _, _, _, e => by cases e
  | .ref _ :: _, _, _, _, e => by cases e
  | .gl _ :: _, _, _, _, e => by cases e
theorem keyD_w {K : PySem.W.Frag} {mg : Str → Option Value} {W : Wd} {d : D} {v : V} {k : Key} (r : Rep K mg W d v) (e : keyD d = some k) : v = kV k := by
  cases d <;> cases e <;> exact r
theorem keysD_v {K : PySem.W.Frag} {mg : Str → Option Value} {W : Wd} : ∀ {ds : List D} {vs : List V} {ks : List Key}, Reps K mg W ds vs → keysD ds = some ks → vs = ks.map kV
  | [], vs, ks, r, e => by
    cases e
    exact r
  | d :: ds, vs, ks, ⟨v, t, ev, rv, rt⟩, e => by
    subst ev
    unfold keysD at e
    cases e1 : keyD d with
    | none => rw [e1] at e; cases e
    | some k =>
      rw [e1] at e
      cases e2 : keysD ds with
      | none => rw [e2] at e; cases e
      | some l =>
        rw [e2] at e
        cases e
        rw [List.map_cons, keyD_w rv e1, keysD_v rt e2]
theorem reps_val {κ : Type} [DecidableEq κ] : ∀ {ks : List κ} {ds : List D} {vs : List V} {k : κ}, ks.length = ds.length → Reps K mg W ds vs →
    (∀ d, valD ks ds k = some d → ∃ v, valD ks vs k = some v ∧ Rep K mg W d v) ∧ (valD ks ds k = none → valD ks vs k = none)
  | [], [], _, k, _, h => by
    cases h
    exact ⟨fun d e => (by cases e), fun _ => rfl⟩
  | g :: ks, d :: ds, _, k, hl, ⟨v, r, e, h, t⟩ => by
    subst e
    have ih := reps_val (ks := ks) (ds := ds) (k := k) (by simpa using hl) t
    unfold valD at ih ⊢
    simp only [List.zip_cons_cons, List.find?_cons]
    by_cases hg : g = k
    · simp only [hg, decide_true]
      refine ⟨fun d' e => ?_, fun e => ?_⟩
      · have e' : d = d' := by simpa using e
        subst e'
        exact ⟨v, by simp, h⟩
      · simp at e
    · simp only [hg, decide_false] at ih ⊢
      exact ih
  | [], _ :: _, _, _, hl, _ => by simp at hl
  | _ :: _, [], _, _, hl, _ => by simp at hl
end

section
variable {X : Cx} {Wx : WX}
/-! ### comparisons -/
def coOp : CO → CmpOp
  | .eq => .Eq | .ne => .NotEq | .lt => .Lt | .le => .LtE | .gt => .Gt | .ge => .GtE | .inn => .In | .nin => .NotIn | .isn => .Is | .ntn => .IsNot
theorem or_din (hu : X.A.units + 1 < cLine) : OpR X (compareOp .In) (fun y x H Q => ∃ a o, x = .ref a ∧ DGet H a y o ∧ Q (.bl o.isSome) H) := by
  intro pins s σ H x y v u Q I rx ry h
  obtain ⟨a, o, rfl, g, q⟩ := h
  cases ry
  exact d_in hu I g rx fun s' I' => ⟨.bl _, H, I', rfl, q⟩
theorem or_dnotin (hu : X.A.units + 1 < cLine) : OpR X (compareOp .NotIn) (fun y x H Q => ∃ a o, x = .ref a ∧ DGet H a y o ∧ Q (.bl (!o.isSome)) H) := by
  intro pins s σ H x y v u Q I rx ry h
  obtain ⟨a, o, rfl, g, q⟩ := h
  cases ry
  exact d_notIn hu I g rx fun s' I' => ⟨.bl _, H, I', rfl, q⟩
theorem any_ints (i : Int) : ∀ l : List Int, inV (.int i) (l.map V.int) = l.any fun z => z == i
  | [] => rfl
  | a :: l => by
    have ih := any_ints i l
    unfold inV at ih ⊢
    rw [List.map_cons, List.any_cons, List.any_cons, ih]
    rfl
theorem flat_ints : ∀ l : List Int, (l.map V.int).all flatV = true
  | [] => rfl
  | a :: l => by rw [List.map_cons, List.all_cons, flat_ints l]; rfl
theorem zip_any {κ : Type} [DecidableEq κ] (k : κ) : ∀ (ks : List κ) (vs : List V), ks.length = vs.length → (ks.any fun g => decide (g = k)) = (valV (ks.zip vs) k).isSome
  | [], [], _ => rfl
  | g :: ks, v :: vs, hl => by
    have ih := zip_any k ks vs (by simpa using hl)
    by_cases hg : g = k
    · rw [List.zip_cons_cons, valV_pos hg, List.any_cons, decide_eq_true hg]
      rfl
    · rw [List.zip_cons_cons, valV_neg hg, List.any_cons, decide_eq_false hg, ih]
      rfl
  | [], _ :: _, hl => by simp at hl
  | _ :: _, [], hl => by simp at hl
/-- what is in what -/
theorem in_ok {W : Wd} {m : Mu} {H : Hp} {x y : D} {v u : V} {b : Bool} (st : St0 X.K X.mg W m H) (hx : Vw X.K X.mg W H x v) (hy : Vw X.K X.mg W H y u) (e : inD? x y = some b) :
    (∃ d ds, Dp X.K H v d ∧ Dp X.K H u (.list ds) ∧ SeqAt.shaped d = true ∧ SeqAt.shaped (.list ds) = true ∧ (ds.any fun z => PyData.eqv z d) = b) ∨
    (∃ p xs, u = .ref p ∧ (SqL X.K H p xs ∨ SqT X.K H p xs) ∧ flatV v = true ∧ xs.all flatV = true ∧ inV v xs = b) ∨ ∃ a o, u = .ref a ∧ DGet H a v o ∧ o.isSome = b := by
  unfold inD? at e
  cases y <;> try cases e
  case lst ds =>
    dsimp only at e
    cases e1 : x.py with
    | none => rw [e1] at e; cases e
    | some p =>
      cases e2 : D.pys ds with
      | none => rw [e1, e2] at e; cases e
      | some qs =>
        rw [e1, e2] at e
        dsimp only at e
        split at e
        · rename_i g
          cases e
          obtain ⟨g1, g2⟩ := Bool.and_eq_true_iff.mp g
          exact .inl ⟨p, qs, vw_dp st.sub hx e1, vw_dp st.sub hy (by show (D.pys ds).map PyData.list = _; rw [e2]; rfl), g1, g2, rfl⟩
        · cases e
  case tup ds =>
    dsimp only at e
    split at e
    · rename_i i l e1
      cases e
      obtain ⟨a, vs, rfl, h, r⟩ := hy.tup st.sub
      have hv := nums_vals r e1
      subst hv
      rw [hx.int]
      exact .inr (.inl ⟨a, _, rfl, .inr h, rfl, flat_ints l, any_ints _ l⟩)
    · cases e
  case dk ks ds =>
    dsimp only at e
    obtain ⟨a, vs, rfl, h, n, r⟩ := hy.dk st.sub
    split at e
    · cases e
      rw [hx.int]
      exact .inr (.inr ⟨a, _, rfl, DGet.k (k := .inl _) h, (zip_any _ ks vs (n.trans r.length)).symm⟩)
    · cases e
      rw [hx.str]
      exact .inr (.inr ⟨a, _, rfl, DGet.k (k := .inr _) h, (zip_any _ ks vs (n.trans r.length)).symm⟩)
    · cases e
theorem eq_ok {W : Wd} {m : Mu} {H : Hp} {x y : D} {v u : V} {b : Bool} (st : St0 X.K X.mg W m H) (hx : Vw X.K X.mg W H x v) (hy : Vw X.K X.mg W H y u) (e : eqD? x y = some b) :
    ∃ d c, Dp X.K H v d ∧ Dp X.K H u c ∧ SeqAt.shaped d = true ∧ SeqAt.shaped c = true ∧ PyData.eqv d c = b := by
  unfold eqD? at e
  cases e1 : x.py with
  | none => rw [e1] at e; cases e
  | some p =>
    cases e2 : y.py with
    | none => rw [e1, e2] at e; cases e
    | some q =>
      rw [e1, e2] at e
      dsimp only at e
      split at e
      · rename_i g
        cases e
        obtain ⟨g1, g2⟩ := Bool.and_eq_true_iff.mp g
        exact ⟨p, q, vw_dp st.sub hx e1, vw_dp st.sub hy e2, g1, g2, rfl⟩
      · cases e
theorem cmpI_ok {f : Int → Int → Bool} {W : Wd} {H : Hp} {x y : D} {v u : V} {b : Bool} (hx : Vw X.K X.mg W H x v) (hy : Vw X.K X.mg W H y u) (e : cmpI? f x y = some b) : ∃ i j, v = .int i ∧ u = .int j ∧ f i j = b := by
  unfold cmpI? at e
  split at e
  · cases e
    exact ⟨_, _, hx.int, hy.int, rfl⟩
  · cases e
theorem opC_of {o : CO} {r : R2} (hr : OpR X (compareOp (coOp o)) r)
    (h : ∀ (W : Wd) (m : Mu) (H : Hp) (Q : VK) (x y : D) (v u : V) (b : Bool), St0 X.K X.mg W m H → Vw X.K X.mg W H x v → Vw X.K X.mg W H y u → cmpD? o x y = some b → Q (.bl b) H → r v u H Q) : OpOk X Wx (compareOp (coOp o)) (opC o) := by
  refine ⟨r, hr, fun W m σ H Q x y v u st hx hy out => ?_⟩
  unfold opC at out
  cases e : cmpD? o x y with
  | none => rw [e] at out; exact out.elim
  | some b =>
    rw [e] at out
    exact h W m H Q x y v u b st hx hy e (out.fin st rfl)
theorem map_not {o : Option Bool} {b : Bool} (h : o.map not = some b) : ∃ k, o = some k ∧ (!k) = b := by
  obtain ⟨k, e1, e2⟩ := Option.map_eq_some_iff.mp h
  exact ⟨k, e1, e2⟩
theorem opC_ok (hu : X.A.units + 200 < cLine) (o : CO) : OpOk X Wx (compareOp (coOp o)) (opC o) := by
  cases o with
  | eq =>
    refine opC_of (op_eqD (by omega)) fun W m H Q x y v u b st hx hy e q => ?_
    obtain ⟨d, c, a1, a2, a3, a4, rfl⟩ := eq_ok st hx hy e
    exact ⟨d, c, a1, a2, a3, a4, q⟩
  | ne =>
    refine opC_of (op_neD (by omega)) fun W m H Q x y v u b st hx hy e q => ?_
    obtain ⟨k, e1, rfl⟩ := map_not e
    obtain ⟨d, c, a1, a2, a3, a4, rfl⟩ := eq_ok st hx hy e1
    exact ⟨d, c, a1, a2, a3, a4, q⟩
  | lt =>
    refine opC_of op_lt fun W m H Q x y v u b st hx hy e q => ?_
    obtain ⟨i, j, a1, a2, rfl⟩ := cmpI_ok hx hy e
    exact ⟨i, j, a1, a2, q⟩
  | le =>
    refine opC_of op_le fun W m H Q x y v u b st hx hy e q => ?_
    obtain ⟨i, j, a1, a2, rfl⟩ := cmpI_ok hx hy e
    exact ⟨i, j, a1, a2, q⟩
  | gt =>
    refine opC_of op_gt fun W m H Q x y v u b st hx hy e q => ?_
    obtain ⟨i, j, a1, a2, rfl⟩ := cmpI_ok hx hy e
    exact ⟨i, j, a1, a2, q⟩
  | ge =>
    refine opC_of op_ge fun W m H Q x y v u b st hx hy e q => ?_
    obtain ⟨i, j, a1, a2, rfl⟩ := cmpI_ok hx hy e
    exact ⟨i, j, a1, a2, q⟩
  | inn =>
    refine opC_of ((op_inD (by omega)).or (op_in_seq.or (or_din (by omega)))) fun W m H Q x y v u b st hx hy e q => ?_
    rcases in_ok st hx hy e with ⟨d, ds, a1, a2, a3, a4, rfl⟩ | ⟨p, xs, a1, a2, a3, a4, rfl⟩ | ⟨a, r, a1, a2, rfl⟩
    · exact .inl ⟨d, ds, a1, a2, a3, a4, q⟩
    · exact .inr (.inl ⟨p, xs, a1, a2, a3, a4, q⟩)
    · exact .inr (.inr ⟨a, r, a1, a2, q⟩)
  | nin =>
    refine opC_of ((op_notInD (by omega)).or (op_notIn_seq.or (or_dnotin (by omega)))) fun W m H Q x y v u b st hx hy e q => ?_
    obtain ⟨k, e1, rfl⟩ := map_not e
    rcases in_ok st hx hy e1 with ⟨d, ds, a1, a2, a3, a4, rfl⟩ | ⟨p, xs, a1, a2, a3, a4, rfl⟩ | ⟨a, r, a1, a2, rfl⟩
    · exact .inl ⟨d, ds, a1, a2, a3, a4, q⟩
    · exact .inr (.inl ⟨p, xs, a1, a2, a3, a4, q⟩)
    · exact .inr (.inr ⟨a, r, a1, a2, q⟩)
  | isn =>
    refine opC_of op_isN fun W m H Q x y v u b st hx hy e q => ?_
    have e' : (if isNon y = true then some (isNon x) else none) = some b := e
    split at e'
    · rename_i hn
      cases e'
      have hy' := isNon_ok hn
      subst hy'
      refine ⟨hy.non, ?_⟩
      rw [vw_non hx]
      exact q
    · cases e'
  | ntn =>
    refine opC_of op_notN fun W m H Q x y v u b st hx hy e q => ?_
    have e' : (if isNon y = true then some (!isNon x) else none) = some b := e
    split at e'
    · rename_i hn
      cases e'
      have hy' := isNon_ok hn
      subst hy'
      refine ⟨hy.non, ?_⟩
      rw [vw_non hx]
      exact q
    · cases e'
theorem de_cmp (hu : X.A.units + 200 < cLine) {o : CO} {a b : Expr} {pos : Pos} {fa fb : Sl → Mu → R D} (ha : PE X a (tP X Wx fa)) (hb : PE X b (tP X Wx fb)) (hm : behindInMarks (coOp o) b = false) :
    PE X (.Compare a [coOp o] [b] pos) (tS X Wx fun s m => (fa s m).bind fun x m1 => (fb s m1).bind fun y m2 => opC o (seeD m2 x) (seeD m2 y) m2) := by
  obtain ⟨r, hr, hq⟩ := opC_ok (X := X) (Wx := Wx) hu o
  refine pe_imp (pe_cmpR hr ha hb hm) fun σ H Q ⟨W, s, m, hs, o⟩ => ?_
  refine run rb_sv hs o fun x m1 W1 v H1 _ h1 p1 av o1 => ?_
  refine run rb_sv h1 o1 fun y m2 W2 u H2 _ h2 p2 bv o2 => ?_
  exact hq W2 m2 σ H2 Q _ _ v u h2.toSt0 (see (H0 := H1) h2.toSt0 (av.step p2)) (see h2.toSt0 bv) o2
/-- a truth value as a test -/
theorem bl_of {W : Wd} {m : Mu} {σ : L2.St} {H : Hp} {Q : Bool → Hp → Prop} {g : R SV} (st : St0 X.K X.mg W m H)
    (o : OutG X.K X.mg (fun W H H' => BlAt W H H') Wx W H σ (g.bind fun r m3 => (match r.fz with | .bl k => .ok k m3 | _ => .bad)) Q) :
    OutG X.K X.mg (SvAt X.K X.mg) Wx W H σ g (fun z H3 => ∃ k, z = .bl k ∧ Q k H3) := by
  cases g with
  | bad => exact o
  | ex x m' => exact o
  | ok a m' =>
    intro W' b H' x' p' av
    cases a with
    | val d =>
      cases d <;> try exact o.elim
      cases av
      exact ⟨_, rfl, o W' _ H' x' p' rfl⟩
    | own c => cases c <;> exact o.elim
theorem dt_cmp (hu : X.A.units + 200 < cLine) {o : CO} {a b : Expr} {pos : Pos} {fa fb : Sl → Mu → R D} (ha : PE X a (tP X Wx fa)) (hb : PE X b (tP X Wx fb)) (hm : behindInMarks (coOp o) b = false) :
    PT X (.Compare a [coOp o] [b] pos) (tT X Wx fun s m => (fa s m).bind fun x m1 => (fb s m1).bind fun y m2 => (opC o (seeD m2 x) (seeD m2 y) m2).bind fun r m3 => (match r.fz with | .bl k => .ok k m3 | _ => .bad)) := by
  obtain ⟨r, hr, hq⟩ := opC_ok (X := X) (Wx := Wx) hu o
  refine pt_imp (pt_cmpR hr ha hb hm) fun σ H Q ⟨W, s, m, hs, o⟩ => ?_
  refine run rb_bl hs o fun x m1 W1 v H1 _ h1 p1 av o1 => ?_
  refine run rb_bl h1 o1 fun y m2 W2 u H2 _ h2 p2 bv o2 => ?_
  exact hq W2 m2 σ H2 _ _ _ v u h2.toSt0 (see (H0 := H1) h2.toSt0 (av.step p2)) (see h2.toSt0 bv) (bl_of h2.toSt0 o2)
theorem opC_noex {o : CO} {a b : D} {m : Mu} : (∃ k, opC o a b m = .ok (.val (.bl k)) m) ∨ opC o a b m = .bad := by
  unfold opC
  cases cmpD? o a b with
  | none => exact .inr rfl
  | some k => exact .inl ⟨k, rfl⟩
theorem de_chn (hu : X.A.units + 200 < cLine) {o p : CO} {a b c : Expr} {pos : Pos} {fa fb fc : Sl → Mu → R SV} (ha : PE X a (tS X Wx fa)) (hb : PE X b (tS X Wx fb)) (hc : PE X c (tS X Wx fc)) (hm : lastMarks [coOp o, coOp p] [b, c] = false) :
    PE X (.Compare a [coOp o, coOp p] [b, c] pos) (tS X Wx fun s m => (fa s m).bind fun x m1 => (fb s m1).bind fun y m2 => (opC o x.fz y.fz m2).bind fun r m3 => (match r.fz with
    | .bl true => (fc s m3).bind fun z m4 => opC p y.fz z.fz m4
    | .bl false => .ok (.val (.bl false)) m3
    | _ => .bad)) := by
  obtain ⟨r, hr, hq⟩ := opC_ok (X := X) (Wx := Wx) hu o
  obtain ⟨r', hr', hq'⟩ := opC_ok (X := X) (Wx := Wx) hu p
  refine pe_imp (pe_chain hr hr' ha hb hc hm) fun σ H Q ⟨W, s, m, hs, out⟩ => ?_
  refine runz rb_sv hs out fun x m1 W1 v H1 h1 p1 av o1 => ?_
  refine runz rb_sv h1 o1 fun y m2 W2 u H2 h2 p2 bv o2 => ?_
  refine hq W2 m2 σ H2 _ _ _ v u h2.toSt0 (.inl (Rep.mono p2.le _ _ av)) (.inl bv) ?_
  rcases opC_noex (o := o) (a := x.fz) (b := y.fz) (m := m2) with ⟨k, e⟩ | e
  · rw [e] at o2 ⊢
    intro W3 z H3 x3 p3 zv
    cases zv
    refine ⟨k, rfl, ?_⟩
    have h3 := h2.step p3 x3
    have o3 := OutG.rebase rb_sv x3 p3 o2
    cases k with
    | true =>
      rw [if_pos rfl]
      refine runz rb_sv h3 o3 fun z m4 W4 w H4 h4 p4 cv o4 => ?_
      exact hq' W4 m4 σ H4 Q _ _ u w h4.toSt0 (.inl (Rep.mono (p3.le.trans p4.le) _ _ bv)) (.inl cv) o4
    | false =>
      rw [if_neg Bool.false_ne_true]
      exact o3.fin x3 rfl
  · rw [e] at o2
    exact o2.elim
theorem dt_chn (hu : X.A.units + 200 < cLine) {o p : CO} {a b c : Expr} {pos : Pos} {fa fb fc : Sl → Mu → R SV} (ha : PE X a (tS X Wx fa)) (hb : PE X b (tS X Wx fb)) (hc : PE X c (tS X Wx fc)) (hm : lastMarks [coOp o, coOp p] [b, c] = false) :
    PT X (.Compare a [coOp o, coOp p] [b, c] pos) (tT X Wx fun s m => (fa s m).bind fun x m1 => (fb s m1).bind fun y m2 => (opC o x.fz y.fz m2).bind fun r m3 => (match r.fz with
    | .bl true => (fc s m3).bind fun z m4 => (opC p y.fz z.fz m4).bind fun q m5 => (match q.fz with | .bl k => .ok k m5 | _ => .bad)
    | .bl false => .ok false m3
    | _ => .bad)) := by
  obtain ⟨r, hr, hq⟩ := opC_ok (X := X) (Wx := Wx) hu o
  obtain ⟨r', hr', hq'⟩ := opC_ok (X := X) (Wx := Wx) hu p
  refine pt_imp (pt_chain hr hr' ha hb hc hm) fun σ H Q ⟨W, s, m, hs, out⟩ => ?_
  refine runz rb_bl hs out fun x m1 W1 v H1 h1 p1 av o1 => ?_
  refine runz rb_bl h1 o1 fun y m2 W2 u H2 h2 p2 bv o2 => ?_
  refine hq W2 m2 σ H2 _ _ _ v u h2.toSt0 (.inl (Rep.mono p2.le _ _ av)) (.inl bv) ?_
  rcases opC_noex (o := o) (a := x.fz) (b := y.fz) (m := m2) with ⟨k, e⟩ | e
  · rw [e] at o2 ⊢
    intro W3 z H3 x3 p3 zv
    cases zv
    refine ⟨k, rfl, ?_⟩
    have h3 := h2.step p3 x3
    have o3 := OutG.rebase rb_bl x3 p3 o2
    cases k with
    | true =>
      rw [if_pos rfl]
      refine runz rb_bl h3 o3 fun z m4 W4 w H4 h4 p4 cv o4 => ?_
      exact hq' W4 m4 σ H4 _ _ _ u w h4.toSt0 (.inl (Rep.mono (p3.le.trans p4.le) _ _ bv)) (.inl cv) (bl_of h4.toSt0 o4)
    | false =>
      rw [if_neg Bool.false_ne_true]
      exact ⟨false, rfl, o3.fin x3 rfl⟩
  · rw [e] at o2
    exact o2.elim

/-! ### not, and, or, if-else as values; minus -/
theorem de_neg {a : Expr} {pos : Pos} {fa : Sl → Mu → R SV} (ha : PE X a (tS X Wx fa)) :
    PE X (.UnaryOp .USub a pos) (tS X Wx fun s m => (fa s m).bind fun x m1 => (match x.fz with | .int i => .ok (.val (.int (-i))) m1 | _ => .bad)) := by
  refine pe_imp (pe_un un_neg ha) fun σ H Q ⟨W, s, m, hs, out⟩ => ?_
  refine runz rb_sv hs out fun x m1 W1 v H1 h1 p1 av o1 => ?_
  split at o1
  · rename_i i e
    rw [e] at av
    exact ⟨i, av, o1.fin h1.toSt0 rfl⟩
  · exact o1.elim
theorem de_not {a : Expr} {pos : Pos} {fa : Sl → Mu → R SV} (ha : PE X a (tS X Wx fa)) :
    PE X (.UnaryOp .Not a pos) (tS X Wx fun s m => (fa s m).bind fun x m1 => (match x.fz with | .bl b => .ok (.val (.bl (!b))) m1 | _ => .bad)) := by
  refine pe_imp (pe_not ha) fun σ H Q ⟨W, s, m, hs, out⟩ => ?_
  refine runz rb_sv hs out fun x m1 W1 v H1 h1 p1 av o1 => ?_
  split at o1
  · rename_i i e
    rw [e] at av
    exact ⟨i, av, o1.fin h1.toSt0 rfl⟩
  · exact o1.elim
theorem de_and {a b : Expr} {rest : List Expr} {pos : Pos} {fa fb : Sl → Mu → R SV} (ha : PE X a (tS X Wx fa)) (hb : PE X (.BoolOp .And (b :: rest) pos) (tS X Wx fb)) :
    PE X (.BoolOp .And (a :: b :: rest) pos) (tS X Wx fun s m => (fa s m).bind fun x m1 => (match x.fz with | .bl true => fb s m1 | .bl false => .ok (.val (.bl false)) m1 | _ => .bad)) := by
  refine pe_imp (pe_and ha hb) fun σ H Q ⟨W, s, m, hs, out⟩ => ?_
  refine runz rb_sv hs out fun x m1 W1 v H1 h1 p1 av o1 => ?_
  split at o1
  · rename_i e
    rw [e] at av
    refine ⟨true, av, ?_⟩
    rw [if_pos rfl]
    exact ⟨W1, s, m1, h1, o1⟩
  · rename_i e
    rw [e] at av
    refine ⟨false, av, ?_⟩
    rw [if_neg Bool.false_ne_true]
    exact o1.fin h1.toSt0 rfl
  · exact o1.elim
theorem de_or {a b : Expr} {rest : List Expr} {pos : Pos} {fa fb : Sl → Mu → R SV} (ha : PE X a (tS X Wx fa)) (hb : PE X (.BoolOp .Or (b :: rest) pos) (tS X Wx fb)) :
    PE X (.BoolOp .Or (a :: b :: rest) pos) (tS X Wx fun s m => (fa s m).bind fun x m1 => (match x.fz with | .bl true => .ok (.val (.bl true)) m1 | .bl false => fb s m1 | _ => .bad)) := by
  refine pe_imp (pe_or ha hb) fun σ H Q ⟨W, s, m, hs, out⟩ => ?_
  refine runz rb_sv hs out fun x m1 W1 v H1 h1 p1 av o1 => ?_
  split at o1
  · rename_i e
    rw [e] at av
    refine ⟨true, av, ?_⟩
    rw [if_pos rfl]
    exact o1.fin h1.toSt0 rfl
  · rename_i e
    rw [e] at av
    refine ⟨false, av, ?_⟩
    rw [if_neg Bool.false_ne_true]
    exact ⟨W1, s, m1, h1, o1⟩
  · exact o1.elim
theorem de_ife {c a b : Expr} {pos : Pos} {fc : Sl → Mu → R Bool} {fa fb : Sl → Mu → R SV} (hc : PT X c (tT X Wx fc)) (ha : PE X a (tS X Wx fa)) (hb : PE X b (tS X Wx fb)) :
    PE X (.IfExp c a b pos) (tS X Wx fun s m => (fc s m).bind fun t m1 => if t = true then fa s m1 else fb s m1) := by
  refine pe_imp (pe_ifExp hc ha hb) fun σ H Q ⟨W, s, m, hs, out⟩ => ?_
  refine run rb_sv hs out fun x m1 W1 v H1 _ h1 p1 av o1 => ?_
  cases av
  cases x with
  | true =>
    rw [if_pos rfl] at o1 ⊢
    exact ⟨W1, s, m1, h1, o1⟩
  | false =>
    rw [if_neg Bool.false_ne_true] at o1 ⊢
    exact ⟨W1, s, m1, h1, o1⟩

/-! ### tests -/
theorem dt_not {a : Expr} {pos : Pos} {f : Sl → Mu → R Bool} (ha : PT X a (tT X Wx f)) : PT X (.UnaryOp .Not a pos) (tT X Wx fun s m => (f s m).bind fun t m1 => .ok (!t) m1) := by
  refine pt_imp (pt_not ha) fun σ H Q ⟨W, s, m, hs, out⟩ => ?_
  refine run rb_bl hs out fun x m1 W1 v H1 _ h1 p1 av o1 => ?_
  cases av
  exact o1.fin h1.toSt0 rfl
theorem dw_and1 {a : Expr} {pos : Pos} {f : Sl → Mu → R Bool} (ha : PT X a (tT X Wx f)) : PW X (.BoolOp .And [a] pos) (tT X Wx fun s m => (f s m).bind fun t m1 => if t = true then .ok true m1 else .ok false m1) := by
  refine pw_imp (pw_and1 ha) fun σ H Q ⟨W, s, m, hs, out⟩ => ?_
  refine run rb_bl hs out fun x m1 W1 v H1 _ h1 p1 av o1 => ?_
  cases av
  cases x <;> exact o1.fin h1.toSt0 rfl
theorem dw_or1 {a : Expr} {pos : Pos} {f : Sl → Mu → R Bool} (ha : PT X a (tT X Wx f)) : PW X (.BoolOp .Or [a] pos) (tT X Wx fun s m => (f s m).bind fun t m1 => if t = true then .ok true m1 else .ok false m1) := by
  refine pw_imp (pw_or1 ha) fun σ H Q ⟨W, s, m, hs, out⟩ => ?_
  refine run rb_bl hs out fun x m1 W1 v H1 _ h1 p1 av o1 => ?_
  cases av
  cases x <;> exact o1.fin h1.toSt0 rfl
theorem dw_and {a b : Expr} {rest : List Expr} {pos : Pos} {f g : Sl → Mu → R Bool} (ha : PT X a (tT X Wx f)) (hb : PW X (.BoolOp .And (b :: rest) pos) (tT X Wx g)) :
    PW X (.BoolOp .And (a :: b :: rest) pos) (tT X Wx fun s m => (f s m).bind fun t m1 => if t = true then g s m1 else .ok false m1) := by
  refine pw_imp (pw_and ha hb) fun σ H Q ⟨W, s, m, hs, out⟩ => ?_
  refine run rb_bl hs out fun x m1 W1 v H1 _ h1 p1 av o1 => ?_
  cases av
  cases x with
  | true => exact ⟨W1, s, m1, h1, o1⟩
  | false => exact o1.fin h1.toSt0 rfl
theorem dw_or {a b : Expr} {rest : List Expr} {pos : Pos} {f g : Sl → Mu → R Bool} (ha : PT X a (tT X Wx f)) (hb : PW X (.BoolOp .Or (b :: rest) pos) (tT X Wx g)) :
    PW X (.BoolOp .Or (a :: b :: rest) pos) (tT X Wx fun s m => (f s m).bind fun t m1 => if t = true then .ok true m1 else g s m1) := by
  refine pw_imp (pw_or ha hb) fun σ H Q ⟨W, s, m, hs, out⟩ => ?_
  refine run rb_bl hs out fun x m1 W1 v H1 _ h1 p1 av o1 => ?_
  cases av
  cases x with
  | true => exact o1.fin h1.toSt0 rfl
  | false => exact ⟨W1, s, m1, h1, o1⟩
theorem tru_of {W : Wd} {m : Mu} {H : Hp} {d : D} {v : V} {b : Bool} (st : St0 X.K X.mg W m H) (hv : Vw X.K X.mg W H d v) (e : truthD d = some b) : TruV X.K v H b := by
  cases d <;> try cases e
  case non => rw [hv.non]; rfl
  case bl => rw [hv.bl]; rfl
  case int => rw [hv.int]; rfl
  case tup ds =>
    obtain ⟨a, vs, rfl, h, r⟩ := hv.tup st.sub
    refine .inr (.inl ⟨vs, h, ?_⟩)
    cases ds with
    | nil => cases r; rfl
    | cons _ _ => obtain ⟨_, _, e, _⟩ := r; subst e; rfl
  case lst ds =>
    obtain ⟨a, vs, rfl, h, r⟩ := hv.lst st.sub
    refine .inl ⟨vs, SqL.of h, ?_⟩
    cases ds with
    | nil => cases r; rfl
    | cons _ _ => obtain ⟨_, _, e, _⟩ := r; subst e; rfl
  case seq ds =>
    obtain ⟨a, vs, rfl, h, r⟩ := hv.seq st.sub
    refine .inl ⟨vs, h, ?_⟩
    cases ds with
    | nil => cases r; rfl
    | cons _ _ => obtain ⟨_, _, e, _⟩ := r; subst e; rfl
  case dk ks ds =>
    obtain ⟨a, vs, rfl, h, n, r⟩ := hv.dk st.sub
    refine .inr (.inr ⟨_, h, ?_⟩)
    cases ks with
    | nil => rfl
    | cons _ _ =>
      cases ds with
      | nil => cases n
      | cons _ _ => obtain ⟨_, _, e, _⟩ := r; subst e; rfl
/-- any expression whose test is its value's truth -/
theorem dt_e {a : Expr} {f : Sl → Mu → R D} (ha : PE X a (tP X Wx f)) (he : ∀ whole, isTrue a X.env whole = (do let v ← whole; standAt a.pos; holding [v] (truthy v))) :
    PT X a (tT X Wx fun s m => (f s m).bind fun x m1 => (match truthD (seeD m1 x) with | some b => .ok b m1 | none => .bad)) := by
  refine pt_imp (pt_truth ha he) fun σ H Q ⟨W, s, m, hs, out⟩ => ?_
  refine run rb_bl hs out fun x m1 W1 v H1 _ h1 p1 av o1 => ?_
  split at o1
  · rename_i b e
    exact ⟨b, tru_of h1.toSt0 (see h1.toSt0 av) e, o1.fin h1.toSt0 rfl⟩
  · exact o1.elim

/-! ### argument lists, displays -/
theorem da_nil : PA X [] (tL X Wx fun _ m => .ok [] m) := pa_imp pa_nil fun σ H Q ⟨W, s, m, hs, out⟩ => out.fin hs.toSt0 Reps.nil
theorem da_cons {e : Expr} {es : List Expr} {f : Sl → Mu → R SV} {g : Sl → Mu → R (List D)} (ha : PE X e (tS X Wx f)) (hr : PA X es (tL X Wx g)) (hs : starEach (e :: es) X.env = (false, eval e X.env) :: starEach es X.env) :
    PA X (e :: es) (tL X Wx fun s m => (f s m).bind fun x m1 => (g s m1).bind fun xs m2 => .ok (x.fz :: xs) m2) := by
  refine pa_imp (pa_cons ha hr hs) fun σ H Q ⟨W, s, m, hs, out⟩ => ?_
  refine runz rb_ls hs out fun x m1 W1 v H1 h1 p1 av o1 => ?_
  refine run rb_ls h1 o1 fun xs m2 W2 vs H2 _ h2 p2 bv o2 => ?_
  exact o2.fin h2.toSt0 (Reps.cons (Rep.mono p2.le _ _ av) bv)
theorem dap_nil : PA X [] (tLP X Wx fun _ m => .ok [] m) := pa_imp pa_nil fun σ H Q ⟨W, s, m, hs, out⟩ => out.fin hs.toSt0 .nil
theorem dap_cons {e : Expr} {es : List Expr} {f : Sl → Mu → R D} {g : Sl → Mu → R (List D)} (ha : PE X e (tP X Wx f)) (hr : PA X es (tLP X Wx g)) (hs : starEach (e :: es) X.env = (false, eval e X.env) :: starEach es X.env) :
    PA X (e :: es) (tLP X Wx fun s m => (f s m).bind fun x m1 => (g s m1).bind fun xs m2 => .ok (x :: xs) m2) := by
  refine pa_imp (pa_cons ha hr hs) fun σ H Q ⟨W, s, m, hs, out⟩ => ?_
  refine run rb_vws hs out fun x m1 W1 v H1 _ h1 p1 av o1 => ?_
  refine run rb_vws h1 o1 fun xs m2 W2 vs H2 _ h2 p2 bv o2 => ?_
  exact o2.fin h2.toSt0 (.cons (av.step p2) bv.any)
theorem de_tup {es : List Expr} {k : Nat} {pos : Pos} {f : Sl → Mu → R (List D)} (h : PA X es (tL X Wx f)) : PE X (.Tuple es k pos) (tS X Wx fun s m => (f s m).bind fun ds m1 => guardR (decide (ds.length ≤ sizeLine)) (.ok (.val (.tup ds)) m1)) := by
  refine pe_imp (pe_tup h) fun σ H Q ⟨W, s, m, hs, out⟩ => ?_
  refine run rb_sv hs out fun ds m1 W1 vs H1 _ h1 p1 r o1 => ?_
  obtain ⟨g, o1⟩ := guard_t o1
  have g := of_decide_eq_true g
  have r' : Reps X.K X.mg W1 ds vs := r
  rw [r'.length] at g
  exact ⟨g, tup_new h1.toSt0 r o1⟩
theorem de_lst {es : List Expr} {pos : Pos} {f : Sl → Mu → R (List D)} (h : PA X es (tL X Wx f)) : PE X (.List es pos) (tS X Wx fun s m => (f s m).bind fun ds m1 => guardR (decide (ds.length ≤ sizeLine)) (.ok (.own (.lst ds)) m1)) := by
  refine pe_imp (pe_lst h) fun σ H Q ⟨W, s, m, hs, out⟩ => ?_
  refine run rb_sv hs out fun ds m1 W1 vs H1 _ h1 p1 r o1 => ?_
  obtain ⟨g, o1⟩ := guard_t o1
  have g := of_decide_eq_true g
  have r' : Reps X.K X.mg W1 ds vs := r
  rw [r'.length] at g
  exact ⟨g, own_new (c := .lst ds) h1.toSt0 (fun p => ⟨vs, upd_same, r⟩) o1⟩

/-! ### subscripts, slices -/
theorem atI_rep {W : Wd} {ds : List D} {vs : List V} {i : Int} {d : D} (r : Reps X.K X.mg W ds vs) (e : atI ds i = some d) : ∃ v, atI vs i = some v ∧ Rep X.K X.mg W d v := by
  unfold atI at e ⊢
  rw [r.length] at e
  cases h : ixN vs.length i with
  | none => rw [h] at e; cases e
  | some j =>
    rw [h] at e
    exact r.get e
end
section
variable {X : Cx} {Wx : WX}
/-- d[y], by values -/
theorem ix_dict (hu : X.A.units + 1 < cLine) : IxR X (fun x y H Q => ∃ a v, x = .ref a ∧ DGet H a y (some v) ∧ Q v H) := by
  intro value slice pins s σ H x y v u Q I rx ry h hs
  obtain ⟨a, w, rfl, g, q⟩ := h
  cases rx
  have ht : s.TypeIs (.ref a) "dict" := dict_typeIs I g
  exact tail_any ht PySem.F.slot_dict_getitem.lookup (d_getItem hu I g ry fun w' s' I' r' => ⟨w, H, I', r', q⟩) hs
theorem de_idx (hu : X.A.units + 200 < cLine) {a b : Expr} {pos : Pos} {fa : Sl → Mu → R D} {fb : Sl → Mu → R SV} (ha : PE X a (tP X Wx fa)) (hb : PE X b (tS X Wx fb)) (hs : PlainIx b) :
    PE X (.Subscript a b pos) (tS X Wx fun s m => (fa s m).bind fun x m1 => (fb s m1).bind fun y m2 => opIx (seeD m2 x) y.fz m2) := by
  refine pe_imp (pe_ix (ix_list.or (ix_tup.or (ix_dict (by omega)))) ha hb hs) fun σ H Q ⟨W, s, m, hs, out⟩ => ?_
  refine run rb_sv hs out fun x m1 W1 v H1 _ h1 p1 av o1 => ?_
  refine runz rb_sv h1 o1 fun y m2 W2 u H2 h2 p2 bv o2 => ?_
  have sv := see (m := m2) (H0 := H1) h2.toSt0 (av.step (H1 := H1) p2)
  generalize seeD m2 x = x' at sv o2
  generalize hy : y.fz = y' at bv o2
  cases x' <;> cases y' <;> try exact o2.elim
  case tup.int ds i =>
    dsimp only [opIx] at o2
    obtain ⟨a, vs, rfl, h, r⟩ := sv.tup h2.toSt0.sub
    cases e : atI ds i with
    | none => rw [e] at o2; exact o2.elim
    | some d =>
      rw [e] at o2
      obtain ⟨w, e1, r1⟩ := atI_rep r e
      exact .inr (.inl ⟨a, vs, i, w, rfl, bv, h, e1, o2.fin h2.toSt0 r1⟩)
  case lst.int ds i =>
    dsimp only [opIx] at o2
    obtain ⟨a, vs, rfl, h, r⟩ := sv.lst h2.toSt0.sub
    cases e : atI ds i with
    | none => rw [e] at o2; exact o2.elim
    | some d =>
      rw [e] at o2
      obtain ⟨w, e1, r1⟩ := atI_rep r e
      exact .inl ⟨a, vs, i, w, rfl, bv, SqL.of h, e1, o2.fin h2.toSt0 r1⟩
  case seq.int ds i =>
    dsimp only [opIx] at o2
    obtain ⟨a, vs, rfl, h, r⟩ := sv.seq h2.toSt0.sub
    cases e : atI ds i with
    | none => rw [e] at o2; exact o2.elim
    | some d =>
      rw [e] at o2
      obtain ⟨w, e1, r1⟩ := atI_rep r e
      exact .inl ⟨a, vs, i, w, rfl, bv, h, e1, o2.fin h2.toSt0 r1⟩
  case dk.int ks ds i =>
    dsimp only [opIx] at o2
    obtain ⟨a, vs, rfl, h, n, r⟩ := sv.dk h2.toSt0.sub
    cases e : valD ks ds (.inl i) with
    | none => rw [e] at o2; exact o2.elim
    | some d =>
      rw [e] at o2
      obtain ⟨w, e1, r1⟩ := (reps_val (k := (.inl i : Key)) n r).1 d e
      have g := DGet.k (k := (.inl i : Key)) h
      have e2 : valV (ks.zip vs) (.inl i : Key) = some w := e1
      rw [e2] at g
      cases bv
      exact .inr (.inr ⟨a, w, rfl, g, o2.fin h2.toSt0 r1⟩)
  case dk.str ks ds i =>
    dsimp only [opIx] at o2
    obtain ⟨a, vs, rfl, h, n, r⟩ := sv.dk h2.toSt0.sub
    cases e : valD ks ds (.inr i) with
    | none => rw [e] at o2; exact o2.elim
    | some d =>
      rw [e] at o2
      obtain ⟨w, e1, r1⟩ := (reps_val (k := (.inr i : Key)) n r).1 d e
      have g := DGet.k (k := (.inr i : Key)) h
      have e2 : valV (ks.zip vs) (.inr i : Key) = some w := e1
      rw [e2] at g
      cases bv
      exact .inr (.inr ⟨a, w, rfl, g, o2.fin h2.toSt0 r1⟩)
  case dt.tup ks ds ys =>
    dsimp only [opIx] at o2
    obtain ⟨a, vs, rfl, h, n, r⟩ := sv.dt h2.toSt0.sub
    cases ek : keysD ys with
    | none => rw [ek] at o2; exact o2.elim
    | some k =>
      rw [ek] at o2
      dsimp only at o2
      cases e : valD ks ds k with
      | none => rw [e] at o2; exact o2.elim
      | some d =>
        rw [e] at o2
        obtain ⟨w, e1, r1⟩ := (reps_val (k := k) n r).1 d e
        obtain ⟨b, us, rfl, hb, ru⟩ := bv
        have eu := keysD_v ru ek
        subst eu
        have g := DGet.t (k := k) h (h2.toSt0.sub _ _ hb)
        have e2 : valV (ks.zip vs) k = some w := e1
        rw [e2] at g
        exact .inr (.inr ⟨a, w, rfl, g, o2.fin h2.toSt0 r1⟩)
/-- a part of a slice -/
abbrev tO (X : Cx) (Wx : WX) (f : Sl → Mu → R (Option Int)) : TO := tG X.K X.mg (fun _ _ _ (a b : Option Int) => a = b) Wx f
theorem rb_eq {K : PySem.W.Frag} {mg : Str → Option Value} {α : Type} : Rb K mg (fun _ _ _ (a b : α) => a = b) := fun _ _ _ _ _ _ _ _ _ _ _ _ h => h
theorem do_none : PO X none (tO X Wx fun _ m => .ok none m) := ⟨fun pins s σ H Q I ⟨W, sl, m, hs, out⟩ => po_none.run pins s σ H Q I (out.fin hs.toSt0 rfl)⟩
theorem do_some {e : Expr} {f : Sl → Mu → R SV} (h : PE X e (tS X Wx f)) : PO X (some e) (tO X Wx fun s m => (f s m).bind fun x m1 => (match x.fz with | .int i => .ok (some i) m1 | _ => .bad)) := by
  refine ⟨fun pins s σ H Q I ⟨W, sl, m, hs, out⟩ => (po_some h).run pins s σ H Q I ?_⟩
  refine runz rb_eq hs out fun x m1 W1 v H1 h1 p1 av o1 => ?_
  split at o1
  · rename_i i e
    rw [e] at av
    exact ⟨i, av, o1.fin h1.toSt0 rfl⟩
  · exact o1.elim
theorem reps_cut {W : Wd} {ds : List D} {vs : List V} (lo hi : Option Int) (r : Reps X.K X.mg W ds vs) : Reps X.K X.mg W (cutD ds lo hi) (cutV vs lo hi) := by
  unfold cutD cutV
  rw [r.length]
  exact (r.drop _).take _
theorem de_slc {a : Expr} {lo hi : Option Expr} {pos p2 : Pos} {fa : Sl → Mu → R D} {fl fh : Sl → Mu → R (Option Int)} (ha : PE X a (tP X Wx fa)) (hl : PO X lo (tO X Wx fl)) (hh : PO X hi (tO X Wx fh)) :
    PE X (.Subscript a (.Slice lo hi none p2) pos) (tS X Wx fun s m => (fa s m).bind fun x m1 => (fl s m1).bind fun l m2 => (fh s m2).bind fun h m3 => opSl (seeD m3 x) l h m3) := by
  refine pe_imp (pe_slice (sl_list.or sl_tupA) ha hl hh) fun σ H Q ⟨W, s, m, hs, out⟩ => ?_
  refine run rb_sv hs out fun x m1 W1 v H1 _ h1 p1 av o1 => ?_
  refine run rb_sv h1 o1 fun l m2 W2 l' H2 _ h2 p2 e2 o2 => ?_
  cases e2
  refine run rb_sv h2 o2 fun h m3 W3 h' H3 _ h3 p3 e3 o3 => ?_
  cases e3
  have sv := see (m := m3) (H0 := H1) h3.toSt0 ((av.step (H1 := H1) p2).step (H1 := H1) p3)
  generalize seeD m3 x = x' at sv o3
  cases x' <;> try exact o3.elim
  case lst ds =>
    obtain ⟨a, vs, rfl, hh, r⟩ := sv.lst h3.toSt0.sub
    exact .inl ⟨a, vs, rfl, SqL.of hh, own_new (c := .lst (cutD ds l h)) h3.toSt0 (fun p => ⟨_, upd_same, reps_cut l h r⟩) o3⟩
  case tup ds =>
    have hr := sv.tupR
    obtain ⟨a, vs, rfl, hh, r⟩ := sv.tup h3.toSt0.sub
    refine .inr ⟨a, vs, rfl, hh, fun e => ?_, fun _ => tup_new h3.toSt0 (reps_cut l h r) o3⟩
    have ec : cutD ds l h = ds := by
      unfold cutD
      rw [r.length, e.1, e.2, List.drop_zero, Nat.sub_zero, ← r.length, List.take_length]
    have o3' : OutG X.K X.mg (SvAt X.K X.mg) Wx W3 H3 σ (.ok (.val (.tup (cutD ds l h))) m3) Q := o3
    rw [ec] at o3'
    exact o3'.fin h3.toSt0 hr
end
end Dp
end

section
set_option Elab.async false
set_option linter.all false
set_option maxRecDepth 100000
set_option maxHeartbeats 1000000
/-! The deep layer, part 6: built-in functions. -/
namespace Dp
open PySem PySem.Spec PyProof.Rows L2

/-! ### lists of ints in order -/
theorem insI_perm (x : Int) : ∀ l, (insI x l).Perm (x :: l)
  | [] => List.Perm.refl _
  | y :: r => by
    unfold insI
    split
    · exact List.Perm.refl _
    · exact ((insI_perm x r).cons y).trans (List.Perm.swap x y r)
theorem sortI_perm : ∀ l, (sortI l).Perm l
  | [] => List.Perm.refl _
  | x :: r => (insI_perm x (sortI r)).trans ((sortI_perm r).cons x)
theorem insI_pw (x : Int) : ∀ l, l.Pairwise (· ≤ ·) → (insI x l).Pairwise (· ≤ ·)
  | [], _ => by
    unfold insI
    simp
  | y :: r, h => by
    unfold insI
    split
    · rename_i hx
      rw [List.pairwise_cons] at h ⊢
      refine ⟨fun z hz => ?_, List.pairwise_cons.mpr h⟩
      rcases List.mem_cons.mp hz with e | e
      · rw [e]; exact hx
      · exact Int.le_trans hx (h.1 z e)
    · rename_i hx
      rw [List.pairwise_cons] at h ⊢
      refine ⟨fun z hz => ?_, insI_pw x r h.2⟩
      rcases List.mem_cons.mp ((insI_perm x r).mem_iff.mp hz) with e | e
      · rw [e]; omega
      · exact h.1 z e
theorem sortI_pw : ∀ l, (sortI l).Pairwise (· ≤ ·)
  | [] => List.Pairwise.nil
  | x :: r => insI_pw x _ (sortI_pw r)
theorem sortI_eq {l l' : List Int} (p : l'.Perm l) (h : l'.Pairwise (· ≤ ·)) : l' = sortI l :=
  List.Perm.eq_of_pairwise (fun a b _ _ h1 h2 => Int.le_antisymm h1 h2) h (sortI_pw l) (p.trans (sortI_perm l).symm)
theorem sortI_rev {l l' : List Int} (p : l'.Perm l) (h : l'.Pairwise (· ≥ ·)) : l' = (sortI l).reverse := by
  have := sortI_eq (l := l) (l' := l'.reverse) ((List.reverse_perm _).trans p) (List.pairwise_reverse.mpr h)
  rw [← this, List.reverse_reverse]
theorem maxI_ok : ∀ (a : Int) (l : List Int), maxI a l ∈ a :: l ∧ ∀ y ∈ a :: l, y ≤ maxI a l
  | a, [] => ⟨by simp [maxI], fun y hy => by simp at hy; simp [maxI, hy]⟩
  | a, b :: r => by
    obtain ⟨h1, h2⟩ := maxI_ok (if b > a then b else a) r
    unfold maxI
    constructor
    · rcases List.mem_cons.mp h1 with e | e
      · split at e
        · rename_i hb
          rw [if_pos hb, e]
          simp
        · rename_i hb
          rw [if_neg hb, e]
          simp
      · exact List.mem_cons_of_mem _ (List.mem_cons_of_mem _ e)
    · intro y hy
      have h3 := h2 (if b > a then b else a) (by simp)
      rcases List.mem_cons.mp hy with e | hy
      · generalize maxI (if b > a then b else a) r = M at h3 ⊢
        split at h3 <;> omega
      · rcases List.mem_cons.mp hy with e | hy
        · generalize maxI (if b > a then b else a) r = M at h3 ⊢
          split at h3 <;> omega
        · exact h2 y (List.mem_cons_of_mem _ hy)
theorem minI_ok : ∀ (a : Int) (l : List Int), minI a l ∈ a :: l ∧ ∀ y ∈ a :: l, minI a l ≤ y
  | a, [] => ⟨by simp [minI], fun y hy => by simp at hy; simp [minI, hy]⟩
  | a, b :: r => by
    obtain ⟨h1, h2⟩ := minI_ok (if b < a then b else a) r
    unfold minI
    constructor
    · rcases List.mem_cons.mp h1 with e | e
      · split at e
        · rename_i hb
          rw [if_pos hb, e]
          simp
        · rename_i hb
          rw [if_neg hb, e]
          simp
      · exact List.mem_cons_of_mem _ (List.mem_cons_of_mem _ e)
    · intro y hy
      have h3 := h2 (if b < a then b else a) (by simp)
      rcases List.mem_cons.mp hy with e | hy
      · generalize minI (if b < a then b else a) r = M at h3 ⊢
        split at h3 <;> omega
      · rcases List.mem_cons.mp hy with e | hy
        · generalize minI (if b < a then b else a) r = M at h3 ⊢
          split at h3 <;> omega
        · exact h2 y (List.mem_cons_of_mem _ hy)
theorem maxI_eq {a m : Int} {l : List Int} (h : m ∈ a :: l) (k : ∀ y ∈ a :: l, y ≤ m) : m = maxI a l :=
  Int.le_antisymm ((maxI_ok a l).2 m h) (k _ (maxI_ok a l).1)
theorem minI_eq {a m : Int} {l : List Int} (h : m ∈ a :: l) (k : ∀ y ∈ a :: l, m ≤ y) : m = minI a l :=
  Int.le_antisymm (k _ (minI_ok a l).1) ((minI_ok a l).2 m h)
theorem reps_ints {K : PySem.W.Frag} {mg : Str → Option Value} {W : Wd} : ∀ l : List Int, Reps K mg W (l.map D.int) (l.map V.int)
  | [] => rfl
  | i :: l => ⟨_, _, rfl, rfl, reps_ints l⟩
theorem keysI_map : ∀ {ks : List Key} {l : List Int}, keysI ks = some l → ks = l.map Sum.inl
  | [], _, h => by cases h; rfl
  | .inl i :: r, _, h => by
    unfold keysI at h
    obtain ⟨q, e, e2⟩ := Option.map_eq_some_iff.mp h
    subst e2
    rw [keysI_map e]
    rfl
  | .inr _ :: _, _, h => by cases h

/-! ### views of arguments -/
inductive VwL (K : PySem.W.Frag) (mg : Str → Option Value) (W : Wd) (H : Hp) : List D → List V → Prop where
  | nil : VwL K mg W H [] []
  | cons {d : D} {v : V} {ds : List D} {vs : List V} : Vw K mg W H d v → VwL K mg W H ds vs → VwL K mg W H (d :: ds) (v :: vs)
theorem see_all {K : PySem.W.Frag} {mg : Str → Option Value} {W : Wd} {H0 H : Hp} {m : Mu} (x : St0 K mg W m H) {ds : List D} {vs : List V} (h : VwsAt K mg W H0 H ds vs) : VwL K mg W H (ds.map (seeD m)) vs := by
  induction h with
  | nil => exact .nil
  | cons h _ ih => exact .cons (see x h) ih
theorem VwL.one {K : PySem.W.Frag} {mg : Str → Option Value} {W : Wd} {H : Hp} {d : D} {vs : List V} (h : VwL K mg W H [d] vs) : ∃ v, vs = [v] ∧ Vw K mg W H d v := by
  cases h with
  | cons h t => cases t; exact ⟨_, rfl, h⟩
theorem VwL.two {K : PySem.W.Frag} {mg : Str → Option Value} {W : Wd} {H : Hp} {d e : D} {vs : List V} (h : VwL K mg W H [d, e] vs) : ∃ v u, vs = [v, u] ∧ Vw K mg W H d v ∧ Vw K mg W H e u := by
  cases h with
  | cons h t =>
    cases t with
    | cons k t => cases t; exact ⟨_, _, rfl, h, k⟩
section
variable {X : Cx} {Wx : WX}
theorem CallR.or {f : Value} {r1 r2 : List V → Hp → VK → Prop} (h1 : CallR X f r1) (h2 : CallR X f r2) : CallR X f (fun xs H Q => r1 xs H Q ∨ r2 xs H Q) := by
  intro pins s σ H xs us Q I r h
  rcases h with h | h
  · exact h1 pins s σ H xs us Q I r h
  · exact h2 pins s σ H xs us Q I r h
def FOk (X : Cx) (Wx : WX) (f : Value) (g : List D → Mu → R SV) : Prop :=
  ∃ r : List V → Hp → VK → Prop, CallR X f r ∧ ∀ (W : Wd) (m : Mu) (σ : L2.St) (H : Hp) (Q : VK) (ds : List D) (vs : List V), St0 X.K X.mg W m H → VwL X.K X.mg W H ds vs → OutG X.K X.mg (SvAt X.K X.mg) Wx W H σ (g ds m) Q → r vs H Q
def bfVal : BF → Value
  | .len => .builtin "len" | .int => .type "int" | .abs => .builtin "abs" | .min => .builtin "min" | .max => .builtin "max" | .tuple => .type "tuple" | .list => .type "list" | .sum => .builtin "sum"
  | .sorted => .builtin "sorted" | .sortedR => .builtin "sorted" | .all => .builtin "all" | .any => .builtin "any"
/-- a list or a tuple, by its view -/
theorem Vw.sq {W : Wd} {H : Hp} {v : V} {ds : List D} {d : D} (x : Same W.Hf H) (h : Vw X.K X.mg W H d v) (e : d = .lst ds ∨ d = .seq ds) : ∃ a vs, v = .ref a ∧ SqL X.K H a vs ∧ Reps X.K X.mg W ds vs := by
  rcases e with rfl | rfl
  · obtain ⟨a, vs, e, h, r⟩ := h.lst x
    exact ⟨a, vs, e, SqL.of h, r⟩
  · exact h.seq x
theorem opF_len : FOk X Wx (.builtin "len") (opF .len) := by
  refine ⟨_, CallR.or call_len_seq call_lenD, fun W m σ H Q ds vs st hv o => ?_⟩
  unfold opF at o
  split at o <;> (try (rename_i e; cases e; done)) <;> (try exact o.elim)
  all_goals obtain ⟨v, rfl, hw⟩ := hv.one
  · obtain ⟨a, vs, rfl, h, r⟩ := hw.tup st.sub
    exact .inl ⟨a, vs, rfl, .inr h, by rw [← r.length]; exact o.fin st rfl⟩
  · obtain ⟨a, vs, rfl, h, r⟩ := hw.lst st.sub
    exact .inl ⟨a, vs, rfl, .inl (SqL.of h), by rw [← r.length]; exact o.fin st rfl⟩
  · obtain ⟨a, vs, rfl, h, r⟩ := hw.seq st.sub
    exact .inl ⟨a, vs, rfl, .inl h, by rw [← r.length]; exact o.fin st rfl⟩
  · obtain ⟨a, vs, rfl, h, n, r⟩ := hw.dk st.sub
    exact .inr ⟨a, _, rfl, h, by rw [List.length_zip, ← r.length, n, Nat.min_self, ← n]; exact o.fin st rfl⟩
theorem opF_int : FOk X Wx (.type "int") (opF .int) := by
  refine ⟨_, call_int1, fun W m σ H Q ds vs st hv o => ?_⟩
  unfold opF at o
  split at o <;> (try (rename_i e; cases e; done)) <;> (try exact o.elim)
  all_goals obtain ⟨v, rfl, hw⟩ := hv.one
  · cases hw.int
    exact .inl ⟨_, rfl, o.fin st rfl⟩
  · cases hw.bl
    exact .inr ⟨_, rfl, o.fin st rfl⟩
theorem opF_abs : FOk X Wx (.builtin "abs") (opF .abs) := by
  refine ⟨_, call_abs, fun W m σ H Q ds vs st hv o => ?_⟩
  unfold opF at o
  split at o <;> (try (rename_i e; cases e; done)) <;> (try exact o.elim)
  obtain ⟨v, rfl, hw⟩ := hv.one
  cases hw.int
  exact ⟨_, rfl, o.fin st rfl⟩
theorem opF_max (hc : X.calm = true) : FOk X Wx (.builtin "max") (opF .max) := by
  refine ⟨_, CallR.or (call_max2 hc) (cr_max hc), fun W m σ H Q ds vs st hv o => ?_⟩
  unfold opF at o
  split at o <;> (try (rename_i e; cases e; done)) <;> (try exact o.elim)
  · obtain ⟨v, u, rfl, hw, hu⟩ := hv.two
    cases hw.int
    cases hu.int
    exact .inl ⟨_, _, rfl, o.fin st rfl⟩
  · obtain ⟨v, rfl, hw⟩ := hv.one
    split at o
    · rename_i ds a l e
      obtain ⟨p, vs, rfl, h, r⟩ := hw.lst st.sub
      have ev := nums_vals r e
      subst ev
      refine .inr ⟨p, _, rfl, SqL.of h, by simp, fun m h1 h2 => ?_⟩
      rw [maxI_eq h1 h2]
      exact o.fin st rfl
    · exact o.elim
theorem opF_min (hc : X.calm = true) : FOk X Wx (.builtin "min") (opF .min) := by
  refine ⟨_, CallR.or (call_min2 hc) (cr_min hc), fun W m σ H Q ds vs st hv o => ?_⟩
  unfold opF at o
  split at o <;> (try (rename_i e; cases e; done)) <;> (try exact o.elim)
  · obtain ⟨v, u, rfl, hw, hu⟩ := hv.two
    cases hw.int
    cases hu.int
    exact .inl ⟨_, _, rfl, o.fin st rfl⟩
  · obtain ⟨v, rfl, hw⟩ := hv.one
    split at o
    · rename_i ds a l e
      obtain ⟨p, vs, rfl, h, r⟩ := hw.lst st.sub
      have ev := nums_vals r e
      subst ev
      refine .inr ⟨p, _, rfl, SqL.of h, by simp, fun m h1 h2 => ?_⟩
      rw [minI_eq h1 h2]
      exact o.fin st rfl
    · exact o.elim
theorem opF_tuple : FOk X Wx (.type "tuple") (opF .tuple) := by
  refine ⟨_, call_tuple_of, fun W m σ H Q ds vs st hv o => ?_⟩
  unfold opF at o
  split at o <;> (try (rename_i e; cases e; done)) <;> (try exact o.elim)
  all_goals obtain ⟨v, rfl, hw⟩ := hv.one
  · obtain ⟨a, vs, rfl, h, r⟩ := hw.lst st.sub
    exact ⟨a, vs, rfl, .inl ⟨SqL.of h, tup_new st r o⟩⟩
  · obtain ⟨a, vs, rfl, h, r⟩ := hw.seq st.sub
    exact ⟨a, vs, rfl, .inl ⟨h, tup_new st r o⟩⟩
  · have hr := hw.tupR
    obtain ⟨a, vs, rfl, h, r⟩ := hw.tup st.sub
    exact ⟨a, vs, rfl, .inr ⟨h, o.fin st hr⟩⟩
/-- the key tuples are data from now on -/
theorem fz_keys {K : PySem.W.Frag} {mg : Str → Option Value} {m : Mu} {H : Hp} : ∀ {kvs : List (List Key × V)} {bs : List Addr} {W : Wd}, St0 K mg W m H → IsKeys H kvs bs → ∃ W2, St0 K mg W2 m H ∧ Step W H W2 H ∧ Reps K mg W2 (kvs.map fun p => .tup (p.1.map kD)) (bs.map V.ref)
  | [], bs, W, st, h => by
    cases h
    exact ⟨W, st, Step.refl W H, rfl⟩
  | (k, v) :: kvs, bs, W, st, h => by
    cases h with
    | @cons _ b _ bs hb ht =>
      have one : ∃ W1, St0 K mg W1 m H ∧ Step W H W1 H ∧ W1.Hf b = some (.tup (k.map kV)) := by
        cases e : W.Hf b with
        | some o =>
          have e2 := st.sub b o e
          rw [hb] at e2
          cases e2
          exact ⟨W, st, Step.refl W H, e⟩
        | none =>
          have nt : b ∉ W.th := fun z => by
            obtain ⟨i, hi, ei⟩ := List.getElem_of_mem z
            have hm : i < m.length := by rw [← st.len]; exact hi
            exact (st.cell i b m[i] (by rw [List.getElem?_eq_getElem hi, ei]) (List.getElem?_eq_getElem hm)).ntup hb _ rfl
          obtain ⟨x2, l2⟩ := st.freeze hb e nt
          refine ⟨_, x2, ⟨l2.sub, ⟨[], by simp, by simp⟩, fun _ _ h _ => h, fun c o h1 h2 h3 h4 => ?_⟩, upd_same⟩
          have ne : c ≠ b := fun z => by
            subst z
            rw [hb] at h1
            cases h1
            exact h4 _ rfl
          show upd W.Hf b _ c = none
          rw [upd_ne ne]
          exact h2
      obtain ⟨W1, st1, p1, e1⟩ := one
      obtain ⟨W2, st2, p2, r2⟩ := fz_keys st1 ht
      have rk : ∀ ks : List Key, Reps K mg W2 (ks.map kD) (ks.map kV) := by
        intro ks
        induction ks with
        | nil => rfl
        | cons q ks ih => exact ⟨_, _, rfl, by cases q <;> rfl, ih⟩
      exact ⟨W2, st2, p1.trans st1 p2, ⟨_, _, rfl, ⟨b, _, rfl, p2.sub _ _ e1, rk k⟩, r2⟩⟩
theorem opF_list (hc : X.calm = true) : FOk X Wx (.type "list") (opF .list) := by
  refine ⟨_, CallR.or call_list_of (call_list_dT hc), fun W m σ H Q ds vs st hv o => ?_⟩
  unfold opF at o
  split at o <;> (try (rename_i e; cases e; done)) <;> (try exact o.elim)
  all_goals obtain ⟨v, rfl, hw⟩ := hv.one
  · obtain ⟨a, vs, rfl, h, r⟩ := hw.lst st.sub
    exact .inl ⟨a, vs, rfl, .inl (SqL.of h), own_new (c := .lst _) st (fun p => ⟨_, upd_same, r⟩) o⟩
  · obtain ⟨a, vs, rfl, h, r⟩ := hw.seq st.sub
    exact .inl ⟨a, vs, rfl, .inl h, own_new (c := .lst _) st (fun p => ⟨_, upd_same, r⟩) o⟩
  · obtain ⟨a, vs, rfl, h, r⟩ := hw.tup st.sub
    exact .inl ⟨a, vs, rfl, .inr h, own_new (c := .lst _) st (fun p => ⟨_, upd_same, r⟩) o⟩
  · rename_i ks ds _
    obtain ⟨a, vs, rfl, h, n, r⟩ := hw.dt st.sub
    refine .inr ⟨a, _, rfl, .inl h, fun p bs hp hk => ?_⟩
    obtain ⟨W2, st2, p2, r2⟩ := fz_keys st hk
    have e : ((ks.zip vs).map fun p => D.tup (p.1.map kD)) = ks.map fun k => .tup (k.map kD) := by
      have hl : ks.length = vs.length := n.trans r.length
      rw [show (fun p : List Key × V => D.tup (p.1.map kD)) = (fun k => D.tup (k.map kD)) ∘ Prod.fst from rfl, ← List.map_map, List.map_fst_zip (by omega)]
    rw [e] at r2
    obtain ⟨x3, p3, nf, nt⟩ := st2.made hp (.lst (bs.map V.ref))
    exact o.fin2 x3 (p2.trans st2 p3) ⟨p, rfl, ⟨⟨_, upd_same, r2⟩, nf, nt⟩, hp⟩
theorem opF_sum (hc : X.calm = true) : FOk X Wx (.builtin "sum") (opF .sum) := by
  refine ⟨_, cr_sum hc, fun W m σ H Q ds vs st hv o => ?_⟩
  unfold opF at o
  split at o <;> (try (rename_i e; cases e; done)) <;> (try exact o.elim)
  obtain ⟨v, rfl, hw⟩ := hv.one
  split at o
  · rename_i l e
    obtain ⟨p, vs, rfl, h, r⟩ := hw.lst st.sub
    have ev := nums_vals r e
    subst ev
    exact ⟨p, _, rfl, SqL.of h, o.fin st rfl⟩
  · exact o.elim
theorem opF_all (hc : X.calm = true) : FOk X Wx (.builtin "all") (opF .all) := by
  refine ⟨_, cr_all hc, fun W m σ H Q ds vs st hv o => ?_⟩
  unfold opF at o
  split at o <;> (try (rename_i e; cases e; done)) <;> (try exact o.elim)
  obtain ⟨v, rfl, hw⟩ := hv.one
  split at o
  · rename_i l e
    obtain ⟨p, vs, rfl, h, r⟩ := hw.lst st.sub
    have ev := bls_vals r e
    subst ev
    exact ⟨p, _, rfl, SqL.of h, o.fin st rfl⟩
  · exact o.elim
theorem opF_any (hc : X.calm = true) : FOk X Wx (.builtin "any") (opF .any) := by
  refine ⟨_, cr_any hc, fun W m σ H Q ds vs st hv o => ?_⟩
  unfold opF at o
  split at o <;> (try (rename_i e; cases e; done)) <;> (try exact o.elim)
  obtain ⟨v, rfl, hw⟩ := hv.one
  split at o
  · rename_i l e
    obtain ⟨p, vs, rfl, h, r⟩ := hw.lst st.sub
    have ev := bls_vals r e
    subst ev
    exact ⟨p, _, rfl, SqL.of h, o.fin st rfl⟩
  · exact o.elim
theorem opF_sorted : FOk X Wx (.builtin "sorted") (opF .sorted) := by
  refine ⟨_, cr_sortedI, fun W m σ H Q ds vs st hv o => ?_⟩
  unfold opF at o
  split at o <;> (try (rename_i e; cases e; done)) <;> (try exact o.elim)
  obtain ⟨v, rfl, hw⟩ := hv.one
  split at o
  · rename_i l e
    obtain ⟨p, vs, rfl, h, r⟩ := hw.lst st.sub
    have ev := nums_vals r e
    subst ev
    refine ⟨p, _, rfl, SqL.of h, fun ns' q hp hs hq => ?_⟩
    rw [sortI_eq hp hs]
    exact own_new (c := .lst _) st (fun p => ⟨_, upd_same, reps_ints _⟩) o q hq
  · exact o.elim
theorem opF_ok (hc : X.calm = true) (f : BF) (hf : f ≠ .sortedR) : FOk X Wx (bfVal f) (opF f) := by
  cases f with
  | len => exact opF_len
  | int => exact opF_int
  | abs => exact opF_abs
  | min => exact opF_min hc
  | max => exact opF_max hc
  | tuple => exact opF_tuple
  | list => exact opF_list hc
  | sum => exact opF_sum hc
  | sorted => exact opF_sorted
  | sortedR => exact absurd rfl hf
  | all => exact opF_all hc
  | any => exact opF_any hc
def bfName : BF → String
  | .len => "len" | .int => "int" | .abs => "abs" | .min => "min" | .max => "max" | .tuple => "tuple" | .list => "list" | .sum => "sum" | .sorted => "sorted" | .sortedR => "sorted" | .all => "all" | .any => "any"
theorem bf_boot (f : BF) : bootBuiltins (Str.ofString (bfName f)) = some (bfVal f) := by
  cases f <;> kernel_rfl
theorem de_bif (hc : X.calm = true) {f : BF} (hf : f ≠ .sortedR) {e : Expr} {es : List Expr} {p pos : Pos} {fa : Sl → Mu → R (List D)} (hg : Gl X (Str.ofString (bfName f))) (hm : X.mg (Str.ofString (bfName f)) = none)
    (ha : PA X (e :: es) (tLP X Wx fa)) (he : starEach (e :: es) X.env = (false, eval e X.env) :: starEach es X.env) (hpl : (backTo pos (starEach es X.env)).any (·.1) = false) :
    PE X (.Call (.Name (Str.ofString (bfName f)) p) (e :: es) [] pos) (tS X Wx fun s m => (fa s m).bind fun ds m1 => opF f (ds.map (seeD m1)) m1) := by
  obtain ⟨r, hr, hq⟩ := opF_ok (X := X) (Wx := Wx) hc f hf
  have key : PE X (.Call (.Name (Str.ofString (bfName f)) p) (e :: es) [] pos) (tCB r (tLP X Wx fa)) := by
    have hb := bf_boot f
    cases f <;> first
      | exact pe_callB hr hg hm hb ha (by decide) (by decide) he hpl
      | exact pe_callTy hr hg hm hb ha (by decide) (by decide) he hpl
  refine pe_imp key fun σ H Q ⟨W, s, m, hs, o⟩ => ?_
  refine run rb_sv hs o fun x m1 W1 v H1 _ h1 p1 av o1 => ?_
  exact hq W1 m1 σ H1 Q _ _ h1.toSt0 (see_all h1.toSt0 av) o1
end
end Dp
end

section
set_option Elab.async false
set_option linter.all false
set_option maxRecDepth 100000
set_option maxHeartbeats 1000000
/-! The deep layer, part 7: sorted of a dict in reverse, isinstance. -/
namespace Dp
open PySem PySem.Spec PyProof.Rows L2
section
variable {X : Cx} {Wx : WX}
/-- sorted(d, reverse=True) of a dict with fewer than 64 keys, all ints -/
theorem cr_sortedDR (hcalm : X.calm = true) : CallRK X (.builtin "sorted") [Str.ofString "reverse"] (fun xs zs H Q => ∃ (a : Addr) (kvs : List (Key × V)) (ks : List Int), xs = [.ref a] ∧ zs = [.bl true] ∧ H a = some (.dK kvs) ∧ kvs.map (·.1) = ks.map Sum.inl ∧ ks.length < 64 ∧
    ∀ (ys : List Int) (p : Addr), ys.Perm ks → ys.Pairwise (· ≥ ·) → H p = none → Q (.ref p) (upd H p (.lst (ys.map V.int)))) := by
  intro pins s σ H xs zs us ws Q I r rz q
  obtain ⟨a, kvs, ks, rfl, rfl, hd, hks, h64, q⟩ := q
  obtain ⟨u, rfl, rx⟩ := vals1 r
  obtain ⟨w1, rfl, e1⟩ := vals1 rz
  obtain rfl : w1 = Value.bool true := e1
  cases rx
  obtain ⟨z, lo, vs, rel, dd⟩ := dk_rd I.hok (.inl hd)
  obtain ⟨ep, hat⟩ := dd.dictAt
  have hkeys : vs.map (·.1) = ks.map Sum.inl := rel.keys.symm.trans hks
  have hl : vs.length = ks.length := by
    have e := congrArg List.length hkeys
    rw [List.length_map, List.length_map] at e
    exact e
  have h16 : vs.length ≤ sizeLine := by rw [hl, sizeLine_eq]; omega
  show wpAny _ _ (call (.builtin "sorted") [.ref a] [(Str.ofString "reverse", Value.bool true)]) _ _ _
  refine call_function_entry_kw PyProof.Rows.kind_sorted PyProof.Rows.plain_sorted PyProof.Rows.entry_sorted (PyProof.Rows.args_sorted_rev _ _) ?_
  unfold Builtin.«sorted»
  refine wpAny_bind (m := checkCount "sorted" 1 1 _) (wpAny_pure ?_)
  refine wpAny_bind (PySem.W.kdu_collect (A := X.A.in1) (PySem.W.kdl_dict (knd := mixKind X.prog X.w) (kvs := vs) (ep := ep) lo) (I.ok.hd hcalm) hat h16 fun h' tk acc hk hacc => ?_)
  have hal : acc.toList.length = ks.length := by rw [Array.length_toList, hacc.1, hl]
  have hS : IntsAre acc.toList ks := ints_each hal fun j v e => by
    obtain ⟨k, x, e1, e2⟩ := hacc.2 j v (by rw [← Array.getElem?_toList]; exact e)
    have e3 : (vs.map (·.1))[j]? = some k := by rw [List.getElem?_map, e1]; rfl
    rw [hkeys, List.getElem?_map] at e3
    cases e4 : ks[j]? with
    | none => rw [e4] at e3; cases e3
    | some y =>
      rw [e4] at e3
      have e5 : Sum.inl y = k := Option.some.inj e3
      subst e5
      rcases keyIs_shape (show keyIs (Sum.inl y) v = true from e2) with ⟨i, t, ek, ev⟩ | ⟨z, t, ek, ev⟩
      · cases ek
        exact ⟨y, t, rfl, ev⟩
      · cases ek
  have I1 : L2.Inv X pins σ H { s with heap := h', toks := tk } := I.kept hk
  have hz : acc.toList.length ≤ sizeLine := by rw [hal, sizeLine_eq]; omega
  refine wpAny_bind (wpAny_newList ?_ hz)
  have hoL : (h'.push (seqObj "list" acc.toList.toArray 0)).get? h'.objs.size = some (seqObj "list" acc.toList.toArray 0) := Heap.get?_push_size _ rfl
  show wpAny _ _ _ _ _ { s with heap := h'.push (seqObj "list" acc.toList.toArray 0), toks := tk }
  refine wpAny_bind (wpAny_holding (wpAny_call_entry_kw PyProof.Rows.slot_list_sort ⟨_, hoL, rfl⟩ PyProof.Rows.entry_list_sort ?_ (PyProof.Rows.args_list_sort_rev _ _)))
  refine SrtR.list_sort_ordR (b := true) SrtO.swo_int hoL hz (fun h2 => SrtO.ints_sortable hS h2) fun out hs hb => ⟨_, rfl, ?_⟩
  obtain ⟨ys, g1, g2, g3⟩ := SrtR.ints_outR (b := true) hS hs hb
  obtain ⟨e', he'⟩ := PyProof.Rows.sortedHeap_at (vs := acc.toList) (out := out.toArray.reverse) hoL
  have hlen : (ys.map V.int).length ≤ sizeLine := by
    rw [List.length_map, g2.length_eq]
    exact Nat.le_trans (Nat.le_of_lt h64) (by decide)
  refine wpAny_pure ⟨_, rfl, .ref h'.objs.size, upd H h'.objs.size (.lst (ys.map V.int)), I1.laid (t' := tk) (fun b u e => ?_) (Nat.le_refl _)
    (show ObjOk X.prog X.w _ _ _ (.lst (ys.map V.int)) from ⟨hlen, out.toArray.reverse.toList, e', vals_of_ints g1, by rw [Array.toArray_toList]; exact he'⟩), rfl, q ys _ g2 g3 (I1.hok.fresh (Nat.le_refl _))⟩
  have hb : b < h'.objs.size := Heap.lt_size e
  show (sortedHeap (h'.push (seqObj "list" acc.toList.toArray 0)) h'.objs.size acc.toList out.toArray.reverse).get? b = some u
  rw [PyProof.Rows.sortedHeap_old (Nat.ne_of_lt hb) (by rw [size_push']; exact Nat.lt_succ_of_lt hb)]
  exact Heap.get?_push_of_some _ e
end
end Dp
end

section
set_option Elab.async false
set_option linter.all false
set_option maxRecDepth 100000
set_option maxHeartbeats 1000000
/-! The deep layer, part 8: what the text gives; isinstance; sorted in reverse; stars. -/
namespace Dp
open PySem PySem.Spec PyProof.Rows L2
/-! ### what the text gives -/
def tyV (K : PySem.W.Frag) : Ty → Value
  | .bt n => .type n
  | .own c => .ref (He.ga K c)
/-- a class whose instances isinstance looks at -/
structure ClsOk (K : PySem.W.Frag) (C : Addr) : Prop where
  cls : Cls K C
  c1 : PySem.W.findIn K (.ref C) "__class__" = some (some (.builtin "object.__class__"))
  c2 : PySem.W.specialIn K (.builtin "object.__class__") "__get__" = some (some (.builtin "getset_descriptor.__get__"))
  c3 : PySem.W.takesIn K (.builtin "object.__class__") = some true
  c4 : PySem.W.mroIn K C (.type "object") = some true
def bltNames : List String := ["len", "int", "abs", "min", "max", "tuple", "list", "sum", "sorted", "all", "any", "isinstance", "range", "enumerate", "zip", "reversed", "bool", "str", "dict"]
structure Fx (G : Prog) (K : PySem.W.Frag) (mg : Str → Option Value) : Prop where
  blt : ∀ x ∈ bltNames, mg (Str.ofString x) = none
  gint : ∀ p ∈ G.gints, ∃ u, mg p.1 = some u ∧ RelV (.int p.2) u
  cls : ∀ c ∈ G.clss, mg c = some (.ref (He.ga K c)) ∧ ClsOk K (He.ga K c)
  fld : ∀ p ∈ G.flds, Cls K (He.ga K p.1) ∧ ∀ f ∈ p.2, NoAttr K (He.ga K p.1) f
  subc : ∀ p ∈ G.subs, ∀ c, p.1.1 = .own c → c ∈ G.clss
  glo : ∀ f ∈ G.fns, f.at_.2 = none → mg f.at_.1 = some (.ref (He.ga K f.at_.1))
  mets : ∀ p ∈ G.mets, ∃ f, G.fns[p.2]? = some f ∧ Cls K (He.ga K p.1.1) ∧ Meth K (He.ga K p.1.1) p.1.2 (He.fAd K f.at_)
  news : ∀ p ∈ G.news, ∃ f, G.fns[p.2]? = some f ∧ Mk K (He.ga K p.1) (He.fAd K f.at_) ∧ mg p.1 = some (.ref (He.ga K p.1))
  sub : ∀ p ∈ G.subs, PySem.W.kitOne K (tyV K p.1.1) (tyV K p.1.2) = some p.2
theorem mem_of_lookup {α β : Type} [BEq α] [LawfulBEq α] {a : α} {b : β} : ∀ {l : List (α × β)}, l.lookup a = some b → (a, b) ∈ l
  | [], h => by cases h
  | (x, y) :: l, h => by
    by_cases e : a == x
    · rw [List.lookup_cons, e] at h
      cases h
      rw [eq_of_beq e]
      exact List.mem_cons_self
    · rw [List.lookup_cons, Bool.eq_false_iff.mpr e] at h
      exact List.mem_cons_of_mem _ (mem_of_lookup h)
theorem bt_tab : ∀ a ∈ ["NoneType", "bool", "int", "str", "tuple", "list", "dict"], ∀ b ∈ btNames, (a :: btNames).contains b = true → kitB a b = some (btSub a b) := by decide +kernel
section
variable {X : Cx} {Wx : WX} {G : Prog}
theorem lookup_eq {α : Type} {a : Ty × Ty} {b : α} : ∀ {l : List ((Ty × Ty) × α)}, l.lookup a = some b → (a, b) ∈ l
  | [], h => by cases h
  | (x, y) :: l, h => by
    by_cases e : a == x
    · rw [List.lookup_cons, e] at h
      cases h
      have e1 : a = x := by
        obtain ⟨a1, a2⟩ := a
        obtain ⟨x1, x2⟩ := x
        have e' : (a1 == x1 && a2 == x2) = true := e
        obtain ⟨e1, e2⟩ := Bool.and_eq_true_iff.mp e'
        rw [of_decide_eq_true e1, of_decide_eq_true e2]
      rw [e1]
      exact List.mem_cons_self
    · rw [List.lookup_cons, Bool.eq_false_iff.mpr e] at h
      exact List.mem_cons_of_mem _ (lookup_eq h)
theorem sub_ok {K : PySem.W.Frag} {mg : Str → Option Value} (F : Fx G K mg) {s t : Ty} {b : Bool} (hs : ∀ n, s = .bt n → n ∈ ["NoneType", "bool", "int", "str", "tuple", "list", "dict"]) (e : isSub G.subs s t = some b) : PySem.W.kitOne K (tyV K s) (tyV K t) = some b := by
  cases s with
  | bt n =>
    cases t with
    | bt k =>
      have e' : (if (n :: btNames).contains k = true then some (btSub n k) else none) = some b := e
      split at e'
      · rename_i hk
        cases e'
        by_cases hn : n = k
        · subst hn
          refine kit_ty ?_
          unfold kitB btSub
          simp
        · have hm : k ∈ btNames := by
            rw [List.contains_iff_mem] at hk
            rcases List.mem_cons.mp hk with e | e
            · exact absurd e.symm hn
            · exact e
          exact kit_ty (bt_tab n (hs n rfl) k hm hk)
      · cases e'
    | own k => exact F.sub _ (lookup_eq (b := b) e)
  | own n => cases t <;> exact F.sub _ (lookup_eq (b := b) e)
/-- a value's type -/
theorem ty_of (F : Fx G X.K X.mg) {W : Wd} {H : Hp} {d : D} {v : V} {s : Ty} (x : Same W.Hf H) (h : Vw X.K X.mg W H d v) (e : tyOfD d = some s) (hc : ∀ c, s = .own c → c ∈ G.clss) : TyX X.K H v (tyV X.K s) := by
  cases d <;> cases e
  case non => cases h.non; exact .base .non
  case bl => cases h.bl; exact .base (.bl _)
  case int => cases h.int; exact .base (.int _)
  case str => cases h.str; exact .base (.str _)
  case tup ds =>
    obtain ⟨a, vs, rfl, h, r⟩ := h.tup x
    rcases h with (h | ⟨o, h⟩) | ⟨o, its, n, h1, h2, _⟩
    · exact .base (.tup h)
    · exact .fTuple h
    · exact .kTuple h1 h2
  case lst ds =>
    obtain ⟨a, vs, rfl, h, r⟩ := h.lst x
    exact .base (.lst h)
  case seq ds =>
    obtain ⟨a, vs, rfl, h, r⟩ := h.seq x
    rcases h with (h | ⟨o, h⟩) | ⟨o, its, n, h1, h2, _⟩
    · exact .base (.lst h)
    · exact .base (.frz h)
    · exact .kList h1 h2
  case dk ks ds =>
    obtain ⟨a, vs, rfl, h, n, r⟩ := h.dk x
    exact .base (.dK h)
  case dt ks ds =>
    obtain ⟨a, vs, rfl, h, n, r⟩ := h.dt x
    exact .base (.dT h)
  case gl z =>
    rcases h with ⟨a, rfl, hs, _⟩ | ⟨c, a, e, _⟩
    · rcases hs with (hs | ⟨o, hs⟩) | ⟨o, its, n, h1, h2, _⟩
      · cases hs
      · cases hs
      · exact .kTuple h1 h2
    · cases c <;> cases e
  case ins c ns ds =>
    obtain ⟨a, dx, vs, rfl, h, n, r⟩ := h.ins x
    obtain ⟨_, k⟩ := F.cls c (hc c rfl)
    exact .base (.ins h k.cls k.c1 k.c2 k.c3 k.c4)
theorem tyOf_bt {d : D} {s : Ty} (e : tyOfD d = some s) : ∀ n, s = .bt n → n ∈ ["NoneType", "bool", "int", "str", "tuple", "list", "dict"] := by
  intro n hn
  subst hn
  cases d <;> cases e <;> decide
/-- the classes as values -/
def clV (K : PySem.W.Frag) : Ty → V
  | .bt n => .ty n
  | .own c => .ref (He.ga K c)
theorem clV_ok (K : PySem.W.Frag) (t : Ty) : ClsV (clV K t) (tyV K t) := by
  cases t with
  | bt n => exact .ty n
  | own c => exact .own _
def tyNm : Ty → Str
  | .bt n => Str.ofString n
  | .own c => c
theorem bt_boot : ∀ n ∈ btNames, bootBuiltins (Str.ofString n) = some (.type n) := by
  intro n hn
  simp only [btNames, List.mem_cons, List.not_mem_nil, or_false] at hn
  rcases hn with rfl | rfl | rfl | rfl | rfl | rfl <;> kernel_rfl
/-- what may be asked for -/
def tyIn (G : Prog) : Ty → Bool
  | .bt n => btNames.contains n
  | .own c => G.clss.contains c && !(c == ("__debug__" : Str))
theorem pe_cl (F : Fx G X.K X.mg) {t : Ty} {pos : Pos} (ht : tyIn G t = true) (hg : Gl X (tyNm t)) : PE X (.Name (tyNm t) pos) (tC (clV X.K t)) := by
  cases t with
  | bt n =>
    have hn : n ∈ btNames := List.contains_iff_mem.mp ht
    have hb : n ∈ bltNames := (show ∀ n ∈ btNames, n ∈ bltNames by decide) n hn
    exact pe_bltn hg (F.blt n hb) (bt_boot n hn) rfl ((show ∀ n ∈ btNames, Str.ofString n ≠ "__name__" by decide) n hn) ((show ∀ n ∈ btNames, (Str.ofString n == ("__debug__" : Str)) = false by decide) n hn)
  | own c =>
    obtain ⟨h1, h2⟩ := Bool.and_eq_true_iff.mp (show (G.clss.contains c && !(c == ("__debug__" : Str))) = true from ht)
    exact pe_glob hg (F.cls c (List.contains_iff_mem.mp h1)).1 rfl (by show (c == ("__debug__" : Str)) = false; simpa using h2)
/-- no star -/
def noStar : Expr → Bool
  | .Starred .. => false
  | _ => true
theorem star_cons {e : Expr} {es : List Expr} {env : Env} (h : noStar e = true) : starEach (e :: es) env = (false, eval e env) :: starEach es env := by
  cases e <;> first | rfl | cases h
theorem star_any {pos : Pos} {env : Env} : ∀ {es : List Expr}, es.all noStar = true → (backTo pos (starEach es env)).any (·.1) = false
  | [], _ => rfl
  | e :: es, h => by
    obtain ⟨h1, h2⟩ := Bool.and_eq_true_iff.mp (show (noStar e && es.all noStar) = true from h)
    rw [star_cons h1]
    show (false || (backTo pos (starEach es env)).any (·.1)) = false
    rw [star_any h2]
    rfl
theorem sub_cls {K : PySem.W.Frag} {mg : Str → Option Value} (F : Fx G K mg) {s t : Ty} {b : Bool} (e : isSub G.subs s t = some b) : ∀ c, s = .own c → c ∈ G.clss := by
  intro c hc
  subst hc
  cases t <;> exact F.subc _ (lookup_eq (b := b) e) c rfl
theorem de_isi (F : Fx G X.K X.mg) {a : Expr} {t : Ty} {p p2 pos : Pos} {fa : Sl → Mu → R SV} (hg : Gl X "isinstance") (ht : tyIn G t = true) (hgt : Gl X (tyNm t)) (ha : PE X a (tS X Wx fa)) (hs : noStar a = true) :
    PE X (.Call (.Name "isinstance" p) [a, .Name (tyNm t) p2] [] pos) (tS X Wx fun s m => (fa s m).bind fun x m1 => (match isTyD G.subs (seeD m1 x.fz) t with | some b => .ok (.val (.bl b)) m1 | none => .bad)) := by
  refine pe_imp (pe_callB call_isi hg (F.blt "isinstance" (by decide)) (by kernel_rfl) (pa_cons ha (pa_cons (pe_cl F ht hgt) pa_nil rfl) (star_cons hs)) (by decide) (by decide) (star_cons hs) (star_any rfl)) fun σ H Q ⟨W, s, m, hs, o⟩ => ?_
  refine runz rb_sv hs o fun x m1 W1 v H1 h1 p1 av o1 => ?_
  split at o1
  · rename_i b e
    obtain ⟨st, e1, e2⟩ := Option.bind_eq_some_iff.mp e
    exact ⟨v, _, _, _, b, rfl, clV_ok X.K t, ty_of F h1.sub (see_rep h1.toSt0 av) e1 (sub_cls F e2), sub_ok F (tyOf_bt e1) e2, o1.fin h1.toSt0 rfl⟩
  · exact o1.elim
/-- the classes' names in a row -/
theorem pa_cls (F : Fx G X.K X.mg) : ∀ {ts : List Ty} {es : List Expr}, es.length = ts.length → (∀ (i : Nat) (t : Ty) (e : Expr), ts[i]? = some t → es[i]? = some e → ∃ p, e = .Name (tyNm t) p) → (∀ t ∈ ts, tyIn G t = true ∧ Gl X (tyNm t)) → PA X es (fun _ H Q => Q (ts.map (clV X.K)) H)
  | [], [], _, _, _ => pa_nil
  | t :: ts, e :: es, hl, hn, ht => by
    obtain ⟨p, rfl⟩ := hn 0 t e rfl rfl
    obtain ⟨h1, h2⟩ := ht t (by simp)
    exact pa_imp (pa_cons (pe_cl F h1 h2) (pa_cls F (ts := ts) (by simpa using hl) (fun i t e a b => hn (i + 1) t e (by simpa using a) (by simpa using b)) fun t h => ht t (by simp [h])) rfl) fun σ H Q h => h
  | [], _ :: _, hl, _, _ => by simp at hl
  | _ :: _, [], hl, _, _ => by simp at hl
theorem cls_pair (K : PySem.W.Frag) : ∀ ts : List Ty, Paired ClsV (ts.map (clV K)) (ts.map (tyV K))
  | [] => .nil
  | t :: ts => .cons (clV_ok K t) (cls_pair K ts)
theorem any_kit (F : Fx G X.K X.mg) {d : D} {s : Ty} (e1 : tyOfD d = some s) : ∀ {ts : List Ty} {b : Bool}, isTyA G.subs d ts = some b → PySem.W.kitAny X.K (tyV X.K s) (ts.map (tyV X.K)) = some b
  | [], b, h => by cases h; exact kitAny_nil
  | t :: ts, b, h => by
    unfold isTyA isTyD at h
    rw [e1] at h
    dsimp only [Option.bind_some] at h
    split at h
    · rename_i e2
      cases h
      exact kitAny_cons (sub_ok F (tyOf_bt e1) e2) (fun z => nomatch z) fun _ => rfl
    · rename_i e2
      exact kitAny_cons (sub_ok F (tyOf_bt e1) e2) (fun _ => any_kit F e1 h) fun z => nomatch z
    · cases h
theorem any_cls (F : Fx G X.K X.mg) {d : D} {s : Ty} (e1 : tyOfD d = some s) {t : Ty} {ts : List Ty} {b : Bool} (h : isTyA G.subs d (t :: ts) = some b) : ∀ c, s = .own c → c ∈ G.clss := by
  unfold isTyA isTyD at h
  rw [e1] at h
  dsimp only [Option.bind_some] at h
  split at h
  · rename_i e2
    exact sub_cls F e2
  · rename_i e2
    exact sub_cls F e2
  · cases h
theorem de_isis (F : Fx G X.K X.mg) {a : Expr} {t : Ty} {ts : List Ty} {es : List Expr} {k : Nat} {p p2 pos : Pos} {fa : Sl → Mu → R SV} (hg : Gl X "isinstance") (hl : es.length = (t :: ts).length) (hn : ∀ (i : Nat) (t' : Ty) (e : Expr), (t :: ts)[i]? = some t' → es[i]? = some e → ∃ p, e = .Name (tyNm t') p)
    (ht : ∀ t' ∈ t :: ts, tyIn G t' = true ∧ Gl X (tyNm t')) (hz : (t :: ts).length ≤ sizeLine) (ha : PE X a (tS X Wx fa)) (hs : noStar a = true) :
    PE X (.Call (.Name "isinstance" p) [a, .Tuple es k p2] [] pos) (tS X Wx fun s m => (fa s m).bind fun x m1 => (match isTyA G.subs (seeD m1 x.fz) (t :: ts) with | some b => .ok (.val (.bl b)) m1 | none => .bad)) := by
  refine pe_imp (pe_callB call_isiT hg (F.blt "isinstance" (by decide)) (by kernel_rfl) (pa_cons ha (pa_cons (pe_tup (pa_cls F hl hn ht)) pa_nil rfl) (star_cons hs)) (by decide) (by decide) (star_cons hs) (star_any rfl)) fun σ H Q ⟨W, s, m, hs, o⟩ => ?_
  refine runz rb_sv hs o fun x m1 W1 v H1 h1 p1 av o1 => ?_
  refine ⟨by rw [List.length_map]; exact hz, fun q hq => ?_⟩
  obtain ⟨x2, p2⟩ := h1.toSt0.laid hq (.tup ((t :: ts).map (clV X.K)))
  split at o1
  · rename_i b e
    cases e1 : tyOfD (seeD m1 x.fz) with
    | none =>
      unfold isTyA isTyD at e
      rw [e1] at e
      cases e
    | some st =>
      have av2 : Rep X.K X.mg _ x.fz v := Rep.mono p2.le _ _ av
      exact ⟨v, q, _, _, _, b, rfl, upd_same, cls_pair X.K _, ty_of F x2.sub (see_rep x2 av2) e1 (any_cls F e1 e), any_kit F e1 e, o1.fin2 x2 p2 rfl⟩
  · exact o1.elim
def rSortR : List V → List V → Hp → VK → Prop := fun xs zs H Q => ∃ (a : Addr) (kvs : List (Key × V)) (ks : List Int), xs = [.ref a] ∧ zs = [.bl true] ∧ H a = some (.dK kvs) ∧ kvs.map (·.1) = ks.map Sum.inl ∧ ks.length < 64 ∧
    ∀ (ys : List Int) (p : Addr), ys.Perm ks → ys.Pairwise (· ≥ ·) → H p = none → Q (.ref p) (upd H p (.lst (ys.map V.int)))
theorem sortR_ok {W : Wd} {m : Mu} {σ : L2.St} {H : Hp} {Q : VK} {ds : List D} {vs : List V} (st : St0 X.K X.mg W m H) (hv : VwL X.K X.mg W H ds vs) (o : OutG X.K X.mg (SvAt X.K X.mg) Wx W H σ (opF .sortedR ds m) Q) : rSortR vs [.bl true] H Q := by
  unfold opF at o
  split at o <;> (try (rename_i e; cases e; done)) <;> (try exact o.elim)
  obtain ⟨v, rfl, hw⟩ := hv.one
  split at o
  · rename_i l e
    obtain ⟨g, o⟩ := guard_t o
    obtain ⟨a, vs, rfl, h, n, r⟩ := hw.dk st.sub
    refine ⟨a, _, l, rfl, rfl, h, ?_, of_decide_eq_true g, fun ys q hp hs hq => ?_⟩
    · rw [← keysI_map e]
      exact List.map_fst_zip (by rw [n, r.length]; exact Nat.le_refl _)
    · rw [sortI_rev hp hs]
      exact own_new (c := .lst _) st (fun p => ⟨_, upd_same, reps_ints _⟩) o q hq
  · exact o.elim
theorem de_sortR (F : Fx G X.K X.mg) (hc : X.calm = true) {a : Expr} {p pos kp cp : Pos} {k : Nat} {fa : Sl → Mu → R (List D)} (hg : Gl X "sorted") (ha : PA X [a] (tLP X Wx fa)) (hs : noStar a = true) :
    PE X (.Call (.Name "sorted" p) [a] [⟨some "reverse", .Constant (.bool true) k cp, kp⟩] pos) (tS X Wx fun s m => (fa s m).bind fun ds m1 => opF .sortedR (ds.map (seeD m1)) m1) := by
  have hk : PK X [⟨some (Str.ofString "reverse"), .Constant (.bool true) k cp, kp⟩] (tCons (tC (.bl true)) tNil) := pk_cons pe_bl pk_nil
  refine pe_imp (pe_callBK (cr_sortedDR hc) hg (F.blt "sorted" (by decide)) (by kernel_rfl) ha hk (by decide) (by decide) (by rw [star_cons hs]; rfl) (star_any (by simp [hs])) (by rfl) (by rfl) (by rfl)) fun σ H Q ⟨W, s, m, hs, o⟩ => ?_
  refine run rb_sv hs o fun x m1 W1 v H1 _ h1 p1 av o1 => ?_
  exact sortR_ok h1.toSt0 (see_all h1.toSt0 av) o1
end
end Dp
end

section
set_option Elab.async false
set_option linter.all false
set_option maxRecDepth 100000
set_option maxHeartbeats 1000000
/-! The deep layer, part 9: enumerate over a tuple. -/
namespace PySem
open Sem (wp)
open AutoSeq1 (wpAny_loadPart')
theorem dp_enumerate_newT {v : Value} {o : Obj} {H : Heap → Prop} (B : Begins v o H) :
    Meets (Builtin.«enumerate.__new__» ⟨[.type "enumerate", v], []⟩) (fun _ R s => H s.heap ∧
      R (.ok (.ret (.ref (s.heap.push o).objs.size))) { s with heap := (s.heap.push o).push { cls := .type "enumerate", data := .fields #[.none, .bool false, .ref s.heap.objs.size, rawInt 0, .none, .none] } }) :=
  .of_wp fun prog w A R s h => by
    obtain ⟨hp, g, d, tk, os⟩ := s; obtain ⟨h1, h⟩ := h
    have hsub := sub_enumerate
    have q1 : ∀ {A' : Around} {E : Value → Shared → Prop} {Q : Value → Shared → Prop}, Q (.ref hp.objs.size) ⟨hp.push o, g, d, tk, os⟩ → wpAny (model prog w) A' (pyIter v) Q E ⟨hp, g, d, tk, os⟩ :=
      fun q => B.iter prog w _ _ ⟨hp, g, d, tk, os⟩ _ h1 q
    wp_walk using q1
    refine wpAny_stack_any fun st => wpAny_pure ?_
    split
    · rename_i c _ _ _ _ _
      cases (c == Value.type "enumerate")
      · wp_walk using q1
        exact ⟨_, rfl, h⟩
      · wp_walk using q1
        exact ⟨_, rfl, h⟩
    · wp_walk using q1
      exact ⟨_, rfl, h⟩
section
variable {prog : Program} {w : World} {A : Around} {E : Value → Shared → Prop} {s : Shared}
theorem dp_enum_begins {v : Value} {o : Obj} {H : Heap → Prop} {Q : Value → Shared → Prop} (B : Begins v o H) (h1 : H s.heap)
    (h : ∀ h', IsEnum h' (s.heap.objs.size + 1) s.heap.objs.size 0 .none → h'.get? s.heap.objs.size = some o → h'.objs.size = s.heap.objs.size + 2 →
      (∀ b o, s.heap.get? b = some o → h'.get? b = some o) → Q (.ref (s.heap.objs.size + 1)) { s with heap := h' }) :
    wpAny (model prog w) A (call (.type "enumerate") [v]) Q E s := by
  refine callType_new F.called_enumerate (by decide) (F.typeCall_enumerate_1 _) (F.newCall_enumerate_1 _) (fun obj => F.args_object_init_2 obj _) F.entry_enumerate_new
    (dp_enumerate_newT B) ⟨h1, ?_⟩
  have hz : (s.heap.push o).objs.size = s.heap.objs.size + 1 := Heap.size_push ..
  show _ ∧ _
  rw [hz]
  have he : IsEnum ((s.heap.push o).push { cls := .type "enumerate", data := .fields #[.none, .bool false, .ref s.heap.objs.size, rawInt 0, .none, .none] }) (s.heap.objs.size + 1) s.heap.objs.size 0 .none := by
    have := Heap.get?_push_size (s.heap.push o) (o := { cls := .type "enumerate", data := .fields #[.none, .bool false, .ref s.heap.objs.size, rawInt 0, .none, .none] }) rfl
    rw [hz] at this; exact this
  refine ⟨⟨_, he, rfl⟩, h _ he (Heap.get?_push_of_some _ (Heap.get?_push_size _ B.free)) (by rw [Heap.size_push, hz]) fun b o x => Heap.get?_push_of_some _ (Heap.get?_push_of_some _ x)⟩
end
end PySem
namespace Dp
open PySem PySem.Spec PyProof.Rows L2
/-- the tuple at a, each item in a new pair -/
def IteT (K : PySem.W.Frag) (a : Addr) : It :=
  ⟨fun i H => ∃ (xs : List V) (x : V), SqT K H a xs ∧ xs[i]? = some x, fun i H v H' => ∃ T x, v = .ref T ∧ H T = none ∧ H' = upd H T (.tup [.int (i : Nat), x]) ∧ ∀ xs, SqT K H a xs → xs[i]? = some x, fun i H => ∃ xs : List V, SqT K H a xs ∧ xs.length ≤ i⟩
theorem turn_enumT {P : Program} {w : World} {K : PySem.W.Frag} {elts : List Expr} {kk : Nat} {tpos : Pos} (a e it : Addr) (hat : a ≠ it) (hae : a ≠ e) :
    Turn P w K (.Tuple elts kk tpos) (IteT K a) [e, it] e (fun i h => (∃ old, IsEnum h e it ((i : Nat) : Int) old) ∧ h.IsTupleIter it a i ∧ e ≠ it) where
  mem := by simp
  obj := fun i h st b hb => by
    obtain ⟨⟨old, he⟩, ⟨o, ho, hc, hd⟩, _⟩ := st
    have e' : b = e ∨ b = it := by simpa using hb
    rcases e' with z | z
    · rw [z]; exact ⟨_, he, fun v q => nomatch q⟩
    · rw [z]; exact ⟨o, ho, fun v q => by rw [hd] at q; cases q⟩
  keep := fun i h h' st k => let ⟨⟨old, he⟩, hi, hne⟩ := st; ⟨⟨old, k e (by simp) _ he⟩, hi.at fun o q => k it (by simp) o q, hne⟩
  item := by
    intro X hP hw hK hc i pins s σ H E I hf st hg
    subst hP hw hK
    obtain ⟨⟨old, he⟩, hit, hne⟩ := st
    obtain ⟨xs, x, hq, hx⟩ := hg
    obtain ⟨its, rv, p, hz⟩ := I.tuple hq
    obtain ⟨u, hu, ru⟩ := rv.get hx
    have hel : e < s.heap.objs.size := Heap.lt_size he
    have hil : it < s.heap.objs.size := by obtain ⟨_, q, _⟩ := hit; exact Heap.lt_size q
    have hin : i < its.toArray.size := by
      obtain ⟨hi, _⟩ := List.getElem?_eq_some_iff.mp hu
      simpa using hi
    have D := Draws.tuple (prog := X.prog) (w := X.w) (A := X.A.in1) (I.ok.hd hc) it a hat its.toArray
    refine wpAny_pyNext_enum_itemD D he ⟨hit, show s.heap.IsTuple a its.toArray from p⟩ hin hne (fun z => by
      rcases List.mem_cons.mp z with z | z
      · exact hne z
      · exact hae (List.mem_singleton.mp z).symm) fun u' h' tk hP ho st' hT hsz hk => ?_
    have eu : u' = u := by
      have h1 : its.toArray[i]? = some u := by simpa using hu
      have h2 : its.toArray[i]? = some u' := hP
      rw [h1] at h2
      exact (Option.some.inj h2).symm
    subst eu
    refine ⟨_, rfl, wpAny_letOwnedTupleGo_enum (s := { s with heap := h', toks := tk + 1 }) ho fun h'' he' sb => ?_⟩
    have hT2 : h''.get? s.heap.objs.size = some { cls := .type "tuple", data := .seq #[.int i tk, u'] } := (sb.2 _ (Nat.ne_of_gt hel)).trans hT
    have new : ObjOk X.prog X.w (upd H s.heap.objs.size (.tup [.int (i : Nat), x])) h'' s.heap.objs.size (.tup [.int (i : Nat), x]) :=
      ⟨by show 2 ≤ sizeLine; decide, [.int i tk, u'], .cons ⟨_, rfl⟩ (.cons ru .nil), ⟨_, hT2, rfl, _, rfl⟩⟩
    have I1 : L2.Inv X pins σ (upd H s.heap.objs.size (.tup [.int (i : Nat), x])) { s with heap := h'', toks := tk + 1 } :=
      I.turnedNew (ch := [e, it]) (fun b ob hb q => (sb.2 b (fun z => hb (by simp [z]))).trans (hk b ob (fun z => hb (by simp [z])) (fun z => hb (by simp [z])) q)) hf (Nat.le_refl _) new
    refine ⟨.ref s.heap.objs.size, _, I1, rfl, ⟨_, x, rfl, I.hok.fresh (Nat.le_refl _), rfl, fun ys hy => by rw [I.tuple_inj hy hq]; exact hx⟩, ⟨⟨u', ?_⟩, st'.1.at fun o q => (sb.2 it (Ne.symm hne)).trans q, hne⟩, fun b hb => ?_⟩
    · have e1 : ((i + 1 : Nat) : Int) = (i : Int) + 1 := by omega
      rw [e1]; exact he'
    · have hb' : b < s.heap.objs.size := by
        have e' : b = e ∨ b = it := by simpa using hb
        rcases e' with z | z
        · rw [z]; exact hel
        · rw [z]; exact hil
      rw [upd_ne (Nat.ne_of_lt hb')]
      exact (hf b hb).1
  done := by
    intro X hP hw hK hc i pins s σ H E I hf st hg
    subst hP hw hK
    obtain ⟨⟨old, he⟩, hit, hne⟩ := st
    obtain ⟨xs, hq, hx⟩ := hg
    obtain ⟨its, rv, p, hz⟩ := I.tuple hq
    obtain ⟨f0, f1, f2, f3, f4, f5⟩ := hf it (by simp)
    have hl := rv.length
    have q : wpAny (model X.prog X.w) X.A (Builtin.SmallTypes.nextOf (.ref it)) (fun _ _ => False) (fun e s => True) s → True := fun _ => trivial
    have hi2 : its.toArray[i]? = none := by
      simp
      omega
    have hT : s.TypeIs (.ref e) "enumerate" := ⟨_, he, rfl⟩
    unfold pyNext
    refine wpAny_bind (wpAny_attempt (wpAny_callSpecial?_slot (name := Str.ofString "__next__") hT F.slot_enumerate_next
      (wpAny_call_entry F.slot_enumerate_next hT F.entry_enumerate_next ?_ (F.args_enumerate_next_1 _))))
    show wpAny _ _ (field (.ref e) 2 >>= _) _ _ _
    refine wpAny_bind (wpAny_field he rfl (x := .ref it) rfl ?_)
    refine wpAny_bind (wpAny_nextOf_tuple_end (A := X.A.in1) (I.ok.hd hc) hit (show s.heap.IsTuple a its.toArray from p) hi2 fun h' x he' hx' => ?_)
    obtain ⟨o, ho, hc⟩ := hx'
    refine wpAny_bind (wpAny_isInstance (T := "StopIteration") (b := true) ⟨o, ho, hc⟩ isSubtype_stop ?_)
    exact wpAny_pure ⟨rfl, I.turned (t' := s.toks) (fun b o hb q => he' b o hb q) f0 f1 f3 f4 f5⟩
  self := fun A i s Q E st h => let ⟨⟨_, he⟩, _⟩ := st; wpAny_pyIter_enum he h
/-- enumerate(x), x a list or a tuple -/
def iEnumA (K : PySem.W.Frag) (ta : TA) : TI := fun σ H R => ta σ H fun vs H1 => ∃ a xs, vs = [.ref a] ∧ ((SqL K H1 a xs ∧ R (Ite K a) H1) ∨ (SqT K H1 a xs ∧ R (IteT K a) H1))
theorem pi_enumA {X : Cx} {e : Expr} {ta : TA} {p pos tpos : Pos} {elts : List Expr} {kk : Nat} (hg : Gl X "enumerate") (hm : X.mg "enumerate" = none) (ha : PA X [e] ta) (hs : starEach [e] X.env = [(false, eval e X.env)] := by rfl) :
    PI X (.Tuple elts kk tpos) (.Call (.Name "enumerate" p) [e] [] pos) (iEnumA X.K ta) := by
  refine ⟨fun pins s σ H R I h => ?_⟩
  refine Call_ (ld_blt I hg hm boot_enumerate (PyProof.Rows.callWith_type1 (thn (ha.run pos pins s σ H _ I h) fun us s1 ⟨vs, H1, I1, r1, q1⟩ => ?_) hs rfl))
  obtain ⟨a, xs, ex, q⟩ := q1
  subst ex
  cases r1 with
  | cons r rr =>
    cases rr
    cases r
    have fr : ∀ b ∈ [s1.heap.objs.size + 1, s1.heap.objs.size], FpOk X pins H1 b := fun b hb => by
      have e' : b = s1.heap.objs.size + 1 ∨ b = s1.heap.objs.size := by simpa using hb
      have hle : s1.heap.objs.size ≤ b := by
        rcases e' with z | z
        · rw [z]; exact Nat.le_add_right _ _
        · rw [z]; exact Nat.le_refl _
      exact I1.fpOk hle (I1.hok.fresh hle)
    rcases q with ⟨hq, q⟩ | ⟨hq, q⟩
    · obtain ⟨its, rv, p', hz⟩ := I1.list hq
      refine call_enumerate_list p'.isList fun h' he hit hsz hk => wpAny_pyIter_enum he ?_
      have I2 : L2.Inv X pins σ H1 { s1 with heap := h' } := I1.kept (t' := s1.toks) hk
      exact ⟨s1.heap.objs.size + 1, [s1.heap.objs.size + 1, s1.heap.objs.size], _, _, H1, rfl, I2, turn_enum a (s1.heap.objs.size + 1) s1.heap.objs.size, ⟨⟨.none, he⟩, hit, Nat.succ_ne_self _⟩, fr, q⟩
    · obtain ⟨its, rv, p', hz⟩ := I1.tuple hq
      obtain ⟨oa, hoa, _⟩ := id p'
      have hlt : a < s1.heap.objs.size := Heap.lt_size hoa
      refine dp_enum_begins (begins_tuple a its.toArray) (show s1.heap.IsTuple a its.toArray from p') fun h' he hit hsz hk => wpAny_pyIter_enum he ?_
      have I2 : L2.Inv X pins σ H1 { s1 with heap := h' } := I1.kept (t' := s1.toks) hk
      exact ⟨s1.heap.objs.size + 1, [s1.heap.objs.size + 1, s1.heap.objs.size], _, _, H1, rfl, I2, turn_enumT a (s1.heap.objs.size + 1) s1.heap.objs.size (Nat.ne_of_lt hlt) (Nat.ne_of_lt (Nat.lt_succ_of_lt hlt)), ⟨⟨.none, he⟩, ⟨_, hit, rfl, rfl⟩, Nat.succ_ne_self _⟩, fr, q⟩
/-- a list or a tuple walked -/
def iSq (K : PySem.W.Frag) (tl : TE) : TI := fun σ H R => tl σ H fun x H1 => ∃ a xs, x = .ref a ∧ ((SqL K H1 a xs ∧ R (Itl K a) H1) ∨ (SqT K H1 a xs ∧ R (Itt K a) H1))
theorem pi_sq {X : Cx} {tg l : Expr} {tl : TE} (hl : PE X l tl) : PI X tg l (iSq X.K tl) := by
  refine ⟨fun pins s σ H R I h => ?_⟩
  refine thn (hl.run pins s σ H _ I h) fun v s1 ⟨x, H1, I1, r1, q1⟩ => ?_
  obtain ⟨a, xs, e, q⟩ := q1
  subst e
  cases r1
  rcases q with ⟨hq, q⟩ | ⟨hq, q⟩
  · obtain ⟨its, rv, p, hz⟩ := I1.list hq
    exact wpAny_pyIter_list p.isList (pi_one (tk := s1.toks) I1 _ (turn_list a _) ⟨_, Heap.get?_push_size _ rfl, rfl, rfl⟩ q)
  · obtain ⟨its, rv, p, hz⟩ := I1.tuple hq
    exact wpAny_pyIter_tuple (show s1.heap.IsTuple a its.toArray from p) (pi_one (tk := s1.toks) I1 _ (turn_tuple a _) ⟨_, Heap.get?_push_size _ rfl, rfl, rfl⟩ q)
end Dp
end

section
set_option Elab.async false
set_option linter.all false
set_option maxRecDepth 100000
set_option maxHeartbeats 1000000
/-! The deep layer, part 10: what is walked. -/
namespace Dp
open PySem PySem.Spec PyProof.Rows L2
structure ItOk (K : PySem.W.Frag) (mg : Str → Option Value) (W0 : Wd) (ds : List D) (J : It) : Prop where
  go : ∀ (W : Wd) (m : Mu) (H : Hp) (i : Nat), Le W0 W → St0 K mg W m H → i < ds.length → J.go i H
  stop : ∀ (W : Wd) (m : Mu) (H : Hp) (i : Nat), Le W0 W → St0 K mg W m H → ds.length ≤ i → J.stop i H
  yld : ∀ (W : Wd) (m : Mu) (H : Hp) (i : Nat) (x : V) (H' : Hp), Le W0 W → St0 K mg W m H → i < ds.length → J.yld i H x H' → ∃ W2 d, ds[i]? = some d ∧ St0 K mg W2 m H' ∧ Step W H W2 H' ∧ Rep K mg W2 d x
def ItAt (K : PySem.W.Frag) (mg : Str → Option Value) (W' : Wd) (_ _ : Hp) (ds : List D) (J : It) : Prop := ItOk K mg W' ds J
theorem sm_none {H : Hp} : Same (fun _ => none) H := fun b o e => by cases e
theorem rb_it {K : PySem.W.Frag} {mg : Str → Option Value} : Rb K mg (ItAt K mg) := fun _ _ _ _ _ _ _ _ _ _ _ _ h => h
section
variable {K : PySem.W.Frag} {mg : Str → Option Value} {W0 : Wd} {ds es : List D} {vs us : List V} {a b : Addr}
theorem it_list (h : SqL K W0.Hf a vs) (r : Reps K mg W0 ds vs) : ItOk K mg W0 ds (Itl K a) where
  go := fun W m H i l st hi => by
    have hi' : i < vs.length := by rw [← r.length]; exact hi
    exact ⟨vs, vs[i], st.sub.seq (l.sub.seq h), List.getElem?_eq_getElem hi'⟩
  stop := fun W m H i l st hi => ⟨vs, st.sub.seq (l.sub.seq h), by rw [← r.length]; exact hi⟩
  yld := fun W m H i x H' l st hi y => by
    obtain ⟨rfl, q⟩ := y
    obtain ⟨d, e, rd⟩ := r.getV (q vs (st.sub.seq (l.sub.seq h)))
    exact ⟨W, d, e, st, Step.refl _ _, Rep.mono l d x rd⟩
theorem it_tup (h : SqT K W0.Hf a vs) (r : Reps K mg W0 ds vs) : ItOk K mg W0 ds (Itt K a) where
  go := fun W m H i l st hi => by
    have hi' : i < vs.length := by rw [← r.length]; exact hi
    exact ⟨vs, vs[i], sqT_same st.sub (sqT_same l.sub h), List.getElem?_eq_getElem hi'⟩
  stop := fun W m H i l st hi => ⟨vs, sqT_same st.sub (sqT_same l.sub h), by rw [← r.length]; exact hi⟩
  yld := fun W m H i x H' l st hi y => by
    obtain ⟨rfl, q⟩ := y
    obtain ⟨d, e, rd⟩ := r.getV (q vs (sqT_same st.sub (sqT_same l.sub h)))
    exact ⟨W, d, e, st, Step.refl _ _, Rep.mono l d x rd⟩
theorem range_get {n i : Nat} {f : Nat → D} (h : i < n) : ((List.range n).map f)[i]? = some (f i) := by
  rw [List.getElem?_map, List.getElem?_range h]
  rfl
theorem it_rng (lo : Int) (n : Nat) : ItOk K mg W0 ((List.range n).map fun i => D.int (lo + (i : Nat))) (Itr lo n) where
  go := fun W m H i l st hi => by
    show i < n
    simpa using hi
  stop := fun W m H i l st hi => by
    show n ≤ i
    simpa using hi
  yld := fun W m H i x H' l st hi y => by
    obtain ⟨rfl, e⟩ := y
    have hi' : i < n := by simpa using hi
    exact ⟨W, _, range_get hi', st, Step.refl _ _, e⟩
theorem it_rngC (lo c : Int) (n : Nat) (f : Nat → Int) (hf : ∀ i, i < n → lo + (i : Nat) * c = f i) : ItOk K mg W0 ((List.range n).map fun i => D.int (f i)) (Itc lo c n) where
  go := fun W m H i l st hi => by
    show i < n
    simpa using hi
  stop := fun W m H i l st hi => by
    show n ≤ i
    simpa using hi
  yld := fun W m H i x H' l st hi y => by
    obtain ⟨rfl, e⟩ := y
    have hi' : i < n := by simpa using hi
    refine ⟨W, _, range_get hi', st, Step.refl _ _, ?_⟩
    rw [← hf i hi']
    exact e
theorem enum_get {ds : List D} {i : Nat} {d : D} (h : ds[i]? = some d) : (((List.range ds.length).zip ds).map fun q => D.tup [.int (q.1 : Nat), q.2])[i]? = some (.tup [.int (i : Nat), d]) := by
  have hi := (List.getElem?_eq_some_iff.mp h).1
  have hz : ((List.range ds.length).zip ds)[i]? = some (i, d) := by
    rw [List.getElem?_zip_eq_some]
    exact ⟨List.getElem?_range hi, h⟩
  rw [List.getElem?_map, hz]
  rfl
theorem enum_len {ds : List D} : (((List.range ds.length).zip ds).map fun q => D.tup [.int (q.1 : Nat), q.2]).length = ds.length := by simp
theorem pair_new {W : Wd} {m : Mu} {H : Hp} {T : Addr} {x y : V} {d e : D} (st : St0 K mg W m H) (hT : H T = none) (rx : Rep K mg W d x) (ry : Rep K mg W e y) :
    ∃ W2, St0 K mg W2 m (upd H T (.tup [x, y])) ∧ Step W H W2 (upd H T (.tup [x, y])) ∧ Rep K mg W2 (.tup [d, e]) (.ref T) := by
  obtain ⟨x2, p2⟩ := st.laid hT (.tup [x, y])
  exact ⟨_, x2, p2, T, [x, y], rfl, upd_same, Reps.cons (Rep.mono p2.le _ _ rx) (Reps.one (Rep.mono p2.le _ _ ry))⟩
theorem it_enumL (h : SqL K W0.Hf a vs) (r : Reps K mg W0 ds vs) : ItOk K mg W0 (((List.range ds.length).zip ds).map fun q => .tup [.int (q.1 : Nat), q.2]) (Ite K a) where
  go := fun W m H i l st hi => by
    have hi' : i < vs.length := by rw [← r.length]; simpa [enum_len] using hi
    exact ⟨vs, vs[i], st.sub.seq (l.sub.seq h), List.getElem?_eq_getElem hi'⟩
  stop := fun W m H i l st hi => ⟨vs, st.sub.seq (l.sub.seq h), by rw [← r.length]; rw [enum_len] at hi; exact hi⟩
  yld := fun W m H i x H' l st hi y => by
    obtain ⟨T, z, rfl, hT, rfl, q⟩ := y
    obtain ⟨d, e, rd⟩ := r.getV (q vs (st.sub.seq (l.sub.seq h)))
    obtain ⟨W2, s2, p2, r2⟩ := pair_new (x := .int (i : Nat)) (d := .int (i : Nat)) st hT rfl (Rep.mono l d z rd)
    exact ⟨W2, _, enum_get e, s2, p2, r2⟩
theorem it_enumT (h : SqT K W0.Hf a vs) (r : Reps K mg W0 ds vs) : ItOk K mg W0 (((List.range ds.length).zip ds).map fun q => .tup [.int (q.1 : Nat), q.2]) (IteT K a) where
  go := fun W m H i l st hi => by
    have hi' : i < vs.length := by rw [← r.length]; simpa [enum_len] using hi
    exact ⟨vs, vs[i], sqT_same st.sub (sqT_same l.sub h), List.getElem?_eq_getElem hi'⟩
  stop := fun W m H i l st hi => ⟨vs, sqT_same st.sub (sqT_same l.sub h), by rw [← r.length]; rw [enum_len] at hi; exact hi⟩
  yld := fun W m H i x H' l st hi y => by
    obtain ⟨T, z, rfl, hT, rfl, q⟩ := y
    obtain ⟨d, e, rd⟩ := r.getV (q vs (sqT_same st.sub (sqT_same l.sub h)))
    obtain ⟨W2, s2, p2, r2⟩ := pair_new (x := .int (i : Nat)) (d := .int (i : Nat)) st hT rfl (Rep.mono l d z rd)
    exact ⟨W2, _, enum_get e, s2, p2, r2⟩
theorem zip_get {ds es : List D} {i : Nat} {d e : D} (h : ds[i]? = some d) (k : es[i]? = some e) : ((ds.zip es).map fun q => D.tup [q.1, q.2])[i]? = some (.tup [d, e]) := by
  have hz : (ds.zip es)[i]? = some (d, e) := by
    rw [List.getElem?_zip_eq_some]
    exact ⟨h, k⟩
  rw [List.getElem?_map, hz]
  rfl
theorem it_zipL (h : SqL K W0.Hf a vs) (r : Reps K mg W0 ds vs) (h' : SqL K W0.Hf b us) (r' : Reps K mg W0 es us) : ItOk K mg W0 ((ds.zip es).map fun q => .tup [q.1, q.2]) (Itz K a b) where
  go := fun W m H i l st hi => by
    have hi2 : i < vs.length ∧ i < us.length := by rw [List.length_map, List.length_zip, r.length, r'.length] at hi; omega
    exact ⟨vs, us, vs[i], us[i], st.sub.seq (l.sub.seq h), st.sub.seq (l.sub.seq h'), List.getElem?_eq_getElem hi2.1, List.getElem?_eq_getElem hi2.2⟩
  stop := fun W m H i l st hi => ⟨vs, us, st.sub.seq (l.sub.seq h), st.sub.seq (l.sub.seq h'), by rw [List.length_map, List.length_zip, r.length, r'.length] at hi; omega⟩
  yld := fun W m H i x H' l st hi y => by
    obtain ⟨T, z, z', rfl, hT, rfl, q, q'⟩ := y
    obtain ⟨d, e, rd⟩ := r.getV (q vs (st.sub.seq (l.sub.seq h)))
    obtain ⟨d', e', rd'⟩ := r'.getV (q' us (st.sub.seq (l.sub.seq h')))
    obtain ⟨W2, s2, p2, r2⟩ := pair_new st hT (Rep.mono l d z rd) (Rep.mono l d' z' rd')
    exact ⟨W2, _, zip_get e e', s2, p2, r2⟩
theorem it_zipT (h : SqT K W0.Hf a vs) (r : Reps K mg W0 ds vs) (h' : SqT K W0.Hf b us) (r' : Reps K mg W0 es us) : ItOk K mg W0 ((ds.zip es).map fun q => .tup [q.1, q.2]) (RZ.ItzT K a b) where
  go := fun W m H i l st hi => by
    have hi2 : i < vs.length ∧ i < us.length := by rw [List.length_map, List.length_zip, r.length, r'.length] at hi; omega
    exact ⟨vs, us, vs[i], us[i], sqT_same st.sub (sqT_same l.sub h), sqT_same st.sub (sqT_same l.sub h'), List.getElem?_eq_getElem hi2.1, List.getElem?_eq_getElem hi2.2⟩
  stop := fun W m H i l st hi => ⟨vs, us, sqT_same st.sub (sqT_same l.sub h), sqT_same st.sub (sqT_same l.sub h'), by rw [List.length_map, List.length_zip, r.length, r'.length] at hi; omega⟩
  yld := fun W m H i x H' l st hi y => by
    obtain ⟨T, z, z', rfl, hT, rfl, q, q'⟩ := y
    obtain ⟨d, e, rd⟩ := r.getV (q vs (sqT_same st.sub (sqT_same l.sub h)))
    obtain ⟨d', e', rd'⟩ := r'.getV (q' us (sqT_same st.sub (sqT_same l.sub h')))
    obtain ⟨W2, s2, p2, r2⟩ := pair_new st hT (Rep.mono l d z rd) (Rep.mono l d' z' rd')
    exact ⟨W2, _, zip_get e e', s2, p2, r2⟩
theorem rev_get {ds : List D} {i : Nat} {d : D} (hi : i < ds.length) (h : ds[ds.length - 1 - i]? = some d) : ds.reverse[i]? = some d := by
  rw [List.getElem?_reverse hi]
  exact h
theorem it_revL (h : SqL K W0.Hf a vs) (r : Reps K mg W0 ds vs) : ItOk K mg W0 ds.reverse (Itv K a vs.length) where
  go := fun W m H i l st hi => by
    have hi' : i < vs.length := by rw [← r.length]; simpa using hi
    exact ⟨hi', vs, vs[vs.length - 1 - i], st.sub.seq (l.sub.seq h), List.getElem?_eq_getElem (by omega)⟩
  stop := fun W m H i l st hi => by
    show vs.length ≤ i
    rw [← r.length]; simpa using hi
  yld := fun W m H i x H' l st hi y => by
    obtain ⟨rfl, q⟩ := y
    obtain ⟨d, e, rd⟩ := r.getV (q vs (st.sub.seq (l.sub.seq h)))
    rw [← r.length] at e
    exact ⟨W, d, rev_get (by simpa using hi) e, st, Step.refl _ _, Rep.mono l d x rd⟩
theorem it_revT (h : SqT K W0.Hf a vs) (r : Reps K mg W0 ds vs) : ItOk K mg W0 ds.reverse (RT.ItvT K a vs.length) where
  go := fun W m H i l st hi => by
    have hi' : i < vs.length := by rw [← r.length]; simpa using hi
    exact ⟨hi', vs, vs[vs.length - 1 - i], sqT_same st.sub (sqT_same l.sub h), List.getElem?_eq_getElem (by omega)⟩
  stop := fun W m H i l st hi => by
    show vs.length ≤ i
    rw [← r.length]; simpa using hi
  yld := fun W m H i x H' l st hi y => by
    obtain ⟨rfl, q⟩ := y
    obtain ⟨d, e, rd⟩ := r.getV (q vs (sqT_same st.sub (sqT_same l.sub h)))
    rw [← r.length] at e
    exact ⟨W, d, rev_get (by simpa using hi) e, st, Step.refl _ _, Rep.mono l d x rd⟩
end
section
variable {X : Cx} {Wx : WX} {tg : Expr}
abbrev tI (X : Cx) (Wx : WX) (f : Sl → Mu → R (List D)) : TI := tG X.K X.mg (ItAt X.K X.mg) Wx f
theorem pi_imp {e : Expr} {t t' : TI} (h : PI X tg e t) (i : ∀ σ H Q, t' σ H Q → t σ H Q) : PI X tg e t' := ⟨fun pins s σ H Q I hw => h.run pins s σ H Q I (i _ _ _ hw)⟩
theorem di_seq {e : Expr} {f : Sl → Mu → R SV} (he : PE X e (tS X Wx f)) : PI X tg e (tI X Wx fun s m => (f s m).bind fun x m1 => (match x.fz with
    | .lst ds => .ok ds m1
    | .tup ds => .ok ds m1
    | .seq ds => .ok ds m1
    | .gl _ => .ok [] m1
    | _ => .bad)) := by
  refine pi_imp (pi_sq he) fun σ H Q ⟨W, s, m, hs, o⟩ => ?_
  refine runz rb_it hs o fun x m1 W1 v H1 h1 p1 av o1 => ?_
  split at o1
  · rename_i ds e
    rw [e] at av
    obtain ⟨a, vs, rfl, h, r⟩ := av
    exact ⟨a, vs, rfl, .inl ⟨SqL.of (h1.sub _ _ h), o1.fin h1.toSt0 (it_list (SqL.of h) r)⟩⟩
  · rename_i ds e
    rw [e] at av
    obtain ⟨a, vs, rfl, h, r⟩ := av
    exact ⟨a, vs, rfl, .inr ⟨SqT.of (h1.sub _ _ h), o1.fin h1.toSt0 (it_tup (SqT.of h) r)⟩⟩
  · rename_i ds e
    rw [e] at av
    obtain ⟨a, vs, rfl, h, r⟩ := av
    exact ⟨a, vs, rfl, .inl ⟨h1.sub.seq h, o1.fin h1.toSt0 (it_list h r)⟩⟩
  · rename_i z e
    rw [e] at av
    obtain ⟨a, rfl, h, _⟩ := av
    exact ⟨a, [], rfl, .inr ⟨sqT_same sm_none h, o1.fin h1.toSt0 (it_tup (ds := []) (vs := []) (sqT_same sm_none h) rfl)⟩⟩
  · exact o1.elim
variable {G : Prog} (F : Fx G X.K X.mg)
theorem di_rng1 (F : Fx G X.K X.mg) {e : Expr} {p pos : Pos} {f : Sl → Mu → R SV} (hg : Gl X "range") (he : PE X e (tS X Wx f)) (hs : noStar e = true) : PI X tg (.Call (.Name "range" p) [e] [] pos) (tI X Wx fun s m => (f s m).bind fun x m1 => (match x.fz with
    | .int n => guardR (r62 n) (.ok ((List.range n.toNat).map fun i => D.int (i : Nat)) m1)
    | _ => .bad)) := by
  refine pi_imp (pi_range1 hg (F.blt "range" (by decide)) (pa_cons he pa_nil (star_cons hs)) (star_cons hs)) fun σ H Q ⟨W, s, m, hs, o⟩ => ?_
  refine runz rb_it hs o fun x m1 W1 v H1 h1 p1 av o1 => ?_
  split at o1
  · rename_i n e
    rw [e] at av
    cases av
    generalize hb : r62 n = b at o1
    cases b with
    | false => exact o1.elim
    | true =>
      unfold r62 at hb
      rw [Bool.and_eq_true, decide_eq_true_eq, decide_eq_true_eq] at hb
      refine ⟨n, rfl, hb.1, hb.2, ?_⟩
      have o2 : OutG X.K X.mg (ItAt X.K X.mg) Wx W1 H1 σ (.ok ((List.range n.toNat).map fun i => D.int (i : Nat)) m1) Q := o1
      refine o2.fin h1.toSt0 ?_
      have q := it_rng (K := X.K) (mg := X.mg) (W0 := W1) 0 n.toNat
      simp only [Int.zero_add] at q
      exact q
  · exact o1.elim
theorem di_rng2 (F : Fx G X.K X.mg) {e e2 : Expr} {p pos : Pos} {f g : Sl → Mu → R SV} (hg : Gl X "range") (he : PE X e (tS X Wx f)) (he2 : PE X e2 (tS X Wx g)) (hs : noStar e = true) (hs2 : noStar e2 = true) : PI X tg (.Call (.Name "range" p) [e, e2] [] pos) (tI X Wx fun s m => (f s m).bind fun x m1 => (g s m1).bind fun y m2 => (match x.fz, y.fz with
    | .int l, .int h => guardR (r62 l && r62 h) (.ok ((List.range (h - l).toNat).map fun i => D.int (l + (i : Nat))) m2)
    | _, _ => .bad)) := by
  refine pi_imp (pi_range2 hg (F.blt "range" (by decide)) (pa_cons he (pa_cons he2 pa_nil (star_cons hs2)) (star_cons hs)) (by rw [star_cons hs, star_cons hs2]; rfl) (star_cons hs2)) fun σ H Q ⟨W, s, m, hs, o⟩ => ?_
  refine runz rb_it hs o fun x m1 W1 v H1 h1 p1 av o1 => ?_
  refine runz rb_it h1 o1 fun y m2 W2 u H2 h2 p2 bv o2 => ?_
  split at o2
  · rename_i l h e1 e2
    rw [e1] at av
    rw [e2] at bv
    cases av
    cases bv
    generalize hb : (r62 l && r62 h) = b at o2
    cases b with
    | false => exact o2.elim
    | true =>
      unfold r62 at hb
      simp only [Bool.and_eq_true, decide_eq_true_eq] at hb
      refine ⟨l, h, rfl, ⟨hb.1.1, hb.1.2, hb.2.1, hb.2.2⟩, ?_⟩
      have o3 : OutG X.K X.mg (ItAt X.K X.mg) Wx W2 H2 σ (.ok ((List.range (h - l).toNat).map fun i => D.int (l + (i : Nat))) m2) Q := o2
      exact o3.fin h2.toSt0 (it_rng l (h - l).toNat)
  · exact o2.elim
theorem di_enum (F : Fx G X.K X.mg) {e : Expr} {elts : List Expr} {kk : Nat} {p pos tpos : Pos} {f : Sl → Mu → R SV} (hg : Gl X "enumerate") (he : PE X e (tS X Wx f)) (hs : noStar e = true) : PI X (.Tuple elts kk tpos) (.Call (.Name "enumerate" p) [e] [] pos) (tI X Wx fun s m => (f s m).bind fun x m1 => (match x.fz with
    | .lst ds => .ok (((List.range ds.length).zip ds).map fun q => .tup [.int (q.1 : Nat), q.2]) m1
    | .tup ds => .ok (((List.range ds.length).zip ds).map fun q => .tup [.int (q.1 : Nat), q.2]) m1
    | .gl _ => .ok [] m1
    | _ => .bad)) := by
  refine pi_imp (pi_enumA hg (F.blt "enumerate" (by decide)) (pa_cons he pa_nil (star_cons hs)) (star_cons hs)) fun σ H Q ⟨W, s, m, hs, o⟩ => ?_
  refine runz rb_it hs o fun x m1 W1 v H1 h1 p1 av o1 => ?_
  split at o1
  · rename_i ds e
    rw [e] at av
    obtain ⟨a, vs, rfl, h, r⟩ := av
    exact ⟨a, vs, rfl, .inl ⟨SqL.of (h1.sub _ _ h), o1.fin h1.toSt0 (it_enumL (SqL.of h) r)⟩⟩
  · rename_i ds e
    rw [e] at av
    obtain ⟨a, vs, rfl, h, r⟩ := av
    exact ⟨a, vs, rfl, .inr ⟨SqT.of (h1.sub _ _ h), o1.fin h1.toSt0 (it_enumT (SqT.of h) r)⟩⟩
  · rename_i z e
    rw [e] at av
    obtain ⟨a, rfl, h, _⟩ := av
    exact ⟨a, [], rfl, .inr ⟨sqT_same sm_none h, o1.fin h1.toSt0 (it_enumT (ds := []) (vs := []) (sqT_same sm_none h) rfl)⟩⟩
  · exact o1.elim
theorem di_zip (F : Fx G X.K X.mg) {e e2 : Expr} {elts : List Expr} {kk : Nat} {p pos tpos : Pos} {f g : Sl → Mu → R SV} (hg : Gl X "zip") (he : PE X e (tS X Wx f)) (he2 : PE X e2 (tS X Wx g)) (hs : noStar e = true) (hs2 : noStar e2 = true) : PI X (.Tuple elts kk tpos) (.Call (.Name "zip" p) [e, e2] [] pos) (tI X Wx fun s m => (f s m).bind fun x m1 => (g s m1).bind fun y m2 => (match x.fz, y.fz with
    | .lst a, .lst b => .ok ((a.zip b).map fun q => .tup [q.1, q.2]) m2
    | .tup a, .tup b => .ok ((a.zip b).map fun q => .tup [q.1, q.2]) m2
    | _, _ => .bad)) := by
  refine pi_imp (RZ.pi_zipA hg (F.blt "zip" (by decide)) (pa_cons he (pa_cons he2 pa_nil (star_cons hs2)) (star_cons hs)) (star_cons hs) (star_any (by simp [hs2]))) fun σ H Q ⟨W, s, m, hs, o⟩ => ?_
  refine runz rb_it hs o fun x m1 W1 v H1 h1 p1 av o1 => ?_
  refine runz rb_it h1 o1 fun y m2 W2 u H2 h2 p2 bv o2 => ?_
  have av2 := Rep.mono p2.le _ _ av
  split at o2
  · rename_i ds es e1 e2
    rw [e1] at av2
    rw [e2] at bv
    obtain ⟨a, vs, rfl, h, r⟩ := av2
    obtain ⟨b, us, rfl, h', r'⟩ := bv
    exact ⟨a, b, vs, us, rfl, .inl ⟨SqL.of (h2.sub _ _ h), SqL.of (h2.sub _ _ h'), o2.fin h2.toSt0 (it_zipL (SqL.of h) r (SqL.of h') r')⟩⟩
  · rename_i ds es e1 e2
    rw [e1] at av2
    rw [e2] at bv
    obtain ⟨a, vs, rfl, h, r⟩ := av2
    obtain ⟨b, us, rfl, h', r'⟩ := bv
    exact ⟨a, b, vs, us, rfl, .inr ⟨SqT.of (h2.sub _ _ h), SqT.of (h2.sub _ _ h'), o2.fin h2.toSt0 (it_zipT (SqT.of h) r (SqT.of h') r')⟩⟩
  · exact o2.elim
theorem di_rev (F : Fx G X.K X.mg) {e : Expr} {p pos : Pos} {f : Sl → Mu → R SV} (hg : Gl X "reversed") (he : PE X e (tS X Wx f)) (hs : noStar e = true) : PI X tg (.Call (.Name "reversed" p) [e] [] pos) (tI X Wx fun s m => (f s m).bind fun x m1 => (match x.fz with
    | .lst ds => .ok ds.reverse m1
    | .tup ds => .ok ds.reverse m1
    | _ => .bad)) := by
  refine pi_imp (RT.pi_revA hg (F.blt "reversed" (by decide)) he (star_cons hs)) fun σ H Q ⟨W, s, m, hs, o⟩ => ?_
  refine runz rb_it hs o fun x m1 W1 v H1 h1 p1 av o1 => ?_
  split at o1
  · rename_i ds e
    rw [e] at av
    obtain ⟨a, vs, rfl, h, r⟩ := av
    exact ⟨a, vs, rfl, .inl ⟨SqL.of (h1.sub _ _ h), o1.fin h1.toSt0 (it_revL (SqL.of h) r)⟩⟩
  · rename_i ds e
    rw [e] at av
    obtain ⟨a, vs, rfl, h, r⟩ := av
    exact ⟨a, vs, rfl, .inr ⟨SqT.of (h1.sub _ _ h), o1.fin h1.toSt0 (it_revT (SqT.of h) r)⟩⟩
  · exact o1.elim
theorem di_revr (F : Fx G X.K X.mg) {e : Expr} {p p2 pos pos2 : Pos} {f : Sl → Mu → R SV} (hg : Gl X "reversed") (hg2 : Gl X "range") (he : PE X e (tS X Wx f)) (hs : noStar e = true) : PI X tg (.Call (.Name "reversed" p) [.Call (.Name "range" p2) [e] [] pos2] [] pos) (tI X Wx fun s m => (f s m).bind fun x m1 => (match x.fz with
    | .int n => guardR (r62 n) (.ok ((List.range n.toNat).map fun i => D.int (n - 1 - (i : Nat))) m1)
    | _ => .bad)) := by
  refine pi_imp (pi_revR hg (F.blt "reversed" (by decide)) (prg_1 hg2 (F.blt "range" (by decide)) he (star_cons hs)) rfl) fun σ H Q ⟨W, s, m, hs, o⟩ => ?_
  refine runz rb_it hs o fun x m1 W1 v H1 h1 p1 av o1 => ?_
  split at o1
  · rename_i n e
    rw [e] at av
    cases av
    generalize hb : r62 n = b at o1
    cases b with
    | false => exact o1.elim
    | true =>
      unfold r62 at hb
      rw [Bool.and_eq_true, decide_eq_true_eq, decide_eq_true_eq] at hb
      have o2 : OutG X.K X.mg (ItAt X.K X.mg) Wx W1 H1 σ (.ok ((List.range n.toNat).map fun i => D.int (n - 1 - (i : Nat))) m1) Q := o1
      refine ⟨n, rfl, by omega, by omega, hb.1, hb.2, ?_⟩
      have q := it_rngC (K := X.K) (mg := X.mg) (W0 := W1) (0 + (((n - 0).toNat : Nat) : Int) - 1) (-1) (n - 0).toNat (fun i => n - 1 - (i : Nat)) (fun i hi => by omega)
      rw [Int.sub_zero] at q ⊢
      exact o2.fin h1.toSt0 q
  · exact o1.elim
end
end Dp
end

section
set_option Elab.async false
set_option linter.all false
set_option maxRecDepth 100000
set_option maxHeartbeats 1000000
/-! The deep layer, part 11: targets, comprehensions. -/
namespace Dp
open PySem PySem.Spec PyProof.Rows L2
def gNames : List Nat → TGs
  | [] => gNil
  | i :: l => gCons (gName i) (gNames l)
def tGT (K : PySem.W.Frag) : T → TG
  | .nm i => gName i
  | .tp l => gTup K l.length (gNames l)
  | .tl l => gLst K l.length (gNames l)
def T.slots : T → List Nat
  | .nm i => [i]
  | .tp l => l
  | .tl l => l
section
variable {K : PySem.W.Frag} {mg : Str → Option Value} {W : Wd} {m : Mu} {H : Hp}
theorem wipe_set {σ : L2.St} {i : Nat} {o : Option V} : ∀ {vs : List Nat}, i ∈ vs → wipe (σ.set i o) vs = wipe σ vs
  | [], h => by simp at h
  | v :: vs, h => by
    unfold wipe
    by_cases hi : i ∈ vs
    · rw [wipe_set hi]
    · have e : i = v := by
        rcases List.mem_cons.mp h with e | e
        · exact e
        · exact absurd e hi
      subst e
      have key : ∀ (ws : List Nat), i ∉ ws → wipe (σ.set i o) ws = (wipe σ ws).set i o := by
        intro ws
        induction ws with
        | nil => intro _; rfl
        | cons w ws ih =>
          intro hw
          simp only [List.mem_cons, not_or] at hw
          unfold wipe
          rw [ih hw.2, List.set_comm _ _ (fun e => hw.1 e)]
      rw [key vs hi, List.set_set]
theorem wipe_wipe {σ : L2.St} : ∀ {us vs : List Nat}, (∀ i ∈ us, i ∈ vs) → wipe (wipe σ us) vs = wipe σ vs
  | [], _, _ => rfl
  | u :: us, vs, h => by
    show wipe ((wipe σ us).set u none) vs = _
    rw [wipe_set (h u (by simp)), wipe_wipe fun i hi => h i (by simp [hi])]
theorem Holds.wipe {s : Sl} {σ : L2.St} (h : Holds K mg W s m σ H) : ∀ vs : List Nat, Holds K mg W (wipeS s vs) m (wipe σ vs) H
  | [] => h
  | v :: vs => by
    have ih := h.wipe vs
    have e1 : ∀ (j : Nat) (x : SV), (wipeS s (v :: vs))[j]? = some (some x) → (wipeS s vs)[j]? = some (some x) ∧ j ≠ v := fun j x e => by
      have e : ((wipeS s vs).set v none)[j]? = some (some x) := e
      by_cases hj : v = j
      · subst hj
        by_cases hl : v < (wipeS s vs).length
        · rw [List.getElem?_set_self hl] at e
          cases e
        · rw [List.getElem?_eq_none (by simpa using hl)] at e
          cases e
      · rw [List.getElem?_set_ne hj] at e
        exact ⟨e, fun z => hj z.symm⟩
    have e2 : ∀ j : Nat, j ≠ v → (L2.wipe σ (v :: vs))[j]? = (L2.wipe σ vs)[j]? := fun j hj => by
      show ((L2.wipe σ vs).set v none)[j]? = _
      exact List.getElem?_set_ne (fun z => hj z.symm)
    refine ⟨ih.toSt0, ?_, fun j d e => ?_, fun j c e => ?_, fun j k c c' a a1 a2 b1 b2 => ?_⟩
    · show ((wipeS s vs).set v none).length = ((L2.wipe σ vs).set v none).length
      rw [List.length_set, List.length_set]
      exact ih.slen
    · obtain ⟨q, hj⟩ := e1 j _ e
      rw [e2 j hj]
      exact ih.slot j d q
    · obtain ⟨q, hj⟩ := e1 j _ e
      rw [e2 j hj]
      exact ih.own j c q
    · obtain ⟨q1, hj⟩ := e1 j _ a1
      obtain ⟨q2, hk⟩ := e1 k _ a2
      rw [e2 j hj] at b1
      rw [e2 k hk] at b2
      exact ih.dis j k c c' a q1 q2 b1 b2
/-- slots may be forgotten on the data's side alone -/
theorem Holds.forget {s : Sl} {σ : L2.St} (h : Holds K mg W s m σ H) : ∀ vs : List Nat, Holds K mg W (wipeS s vs) m σ H
  | [] => h
  | v :: vs => by
    have ih := h.forget vs
    have e1 : ∀ (j : Nat) (x : SV), (wipeS s (v :: vs))[j]? = some (some x) → (wipeS s vs)[j]? = some (some x) := fun j x e => by
      have e : ((wipeS s vs).set v none)[j]? = some (some x) := e
      by_cases hj : v = j
      · subst hj
        by_cases hl : v < (wipeS s vs).length
        · rw [List.getElem?_set_self hl] at e
          cases e
        · rw [List.getElem?_eq_none (by simpa using hl)] at e
          cases e
      · rw [List.getElem?_set_ne hj] at e
        exact e
    refine ⟨ih.toSt0, ?_, fun j d e => ih.slot j d (e1 j _ e), fun j c e => ih.own j c (e1 j _ e), fun j k c c' a a1 a2 b1 b2 => ih.dis j k c c' a (e1 j _ a1) (e1 k _ a2) b1 b2⟩
    show ((wipeS s vs).set v none).length = _
    rw [List.length_set]
    exact ih.slen
theorem bind_names {Q : L2.St → Hp → Prop} : ∀ (l : List Nat) (s : Sl) (σ : L2.St) (ds : List D) (vs : List V), l.length = ds.length → Holds K mg W s m σ H → Reps K mg W ds vs →
    (∀ σ2, Holds K mg W ((l.zip ds).foldl (fun s p => s.set p.1 (some (.val p.2))) s) m σ2 H → (∀ ws : List Nat, (∀ i ∈ l, i ∈ ws) → L2.wipe σ2 ws = L2.wipe σ ws) → Q σ2 H) → gNames l vs σ H Q
  | [], s, σ, [], vs, _, h, r, k => by
    cases r
    exact ⟨rfl, k σ h fun _ _ => rfl⟩
  | i :: l, s, σ, d :: ds, vs, hl, h, ⟨v, t, e, rv, rt⟩, k => by
    subst e
    refine ⟨v, t, rfl, bind_names l (s.set i (some (.val d))) (σ.set i (some v)) ds t (by simpa using hl) (h.put i (.inl ⟨d, rfl, rv⟩)) rt fun σ2 h2 hw => k σ2 h2 fun ws hws => ?_⟩
    rw [hw ws fun j hj => hws j (by simp [hj]), wipe_set (hws i (by simp))]
  | [], _, _, _ :: _, _, hl, _, _, _ => by simp at hl
  | _ :: _, _, _, [], _, hl, _, _, _ => by simp at hl
/-- a target is bound -/
theorem bind_ok {t : T} {s s2 : Sl} {σ : L2.St} {d : D} {v : V} {Q : L2.St → Hp → Prop} (h : Holds K mg W s m σ H) (r : Rep K mg W d v) (e : bindT s t d = some s2)
    (k : ∀ σ2, Holds K mg W s2 m σ2 H → (∀ ws : List Nat, (∀ i ∈ t.slots, i ∈ ws) → L2.wipe σ2 ws = L2.wipe σ ws) → Q σ2 H) : tGT K t v σ H Q := by
  cases t with
  | nm i =>
    cases e
    exact k _ (h.put i (.inl ⟨d, rfl, r⟩)) fun ws hw => wipe_set (hw i (by simp [T.slots]))
  | tp l =>
    cases d <;> try cases e
    rename_i ds
    have e' : (if l.length = ds.length then some ((l.zip ds).foldl (fun s p => s.set p.1 (some (.val p.2))) s) else none) = some s2 := e
    split at e'
    · rename_i hl
      cases e'
      obtain ⟨a, vs, rfl, hq, rs⟩ := r
      exact ⟨a, vs, rfl, SqT.of (h.sub _ _ hq), by rw [← rs.length, hl], bind_names l s σ ds vs hl h rs k⟩
    · cases e'
  | tl l =>
    cases d <;> try cases e
    rename_i ds
    have e' : (if l.length = ds.length then some ((l.zip ds).foldl (fun s p => s.set p.1 (some (.val p.2))) s) else none) = some s2 := e
    split at e'
    · rename_i hl
      cases e'
      obtain ⟨a, vs, rfl, hq, rs⟩ := r
      exact ⟨a, vs, rfl, SqL.of (h.sub _ _ hq), by rw [← rs.length, hl], bind_names l s σ ds vs hl h rs k⟩
    · cases e'
theorem Step.updFresh {W2 : Wd} {H1 H2 : Hp} {p : Addr} (q : Step W H1 W2 H2) (hp : H1 p = none) (o : HO) : Step W H1 W2 (upd H2 p o) :=
  ⟨q.sub, q.th, fun b u e n => by rw [upd_ne (ne_of_none e hp)]; exact q.keep b u e n, q.nofz⟩
end
/-- within a block no exception may leave -/
def Wx0 : WX := fun _ _ _ _ => False
section
variable {K : PySem.W.Frag} {mg : Str → Option Value}
theorem out0 {α β : Type} {A : Wd → Hp → Hp → α → β → Prop} {W : Wd} {H : Hp} {σ : L2.St} {a : α} {m' : Mu} {Q : β → Hp → Prop} (h : ∀ (W' : Wd) (b : β) (H' : Hp), St0 K mg W' m' H' → Step W H W' H' → A W' H H' a b → Q b H') : OutG K mg A Wx0 W H σ (.ok a m') Q := h
theorem outN {α β γ : Type} {A : Wd → Hp → Hp → γ → β → Prop} {Wx : WX} {W : Wd} {H : Hp} {σ : L2.St} {r : R α} {f : α → Mu → R γ} {Q : β → Hp → Prop} (h : OutG K mg A Wx W H σ (r.bindN f) Q) : ∃ a m, r = .ok a m ∧ OutG K mg A Wx W H σ (f a m) Q := by
  cases r with
  | ok a m => exact ⟨a, m, rfl, h⟩
  | ex x m => exact h.elim
  | bad => exact h.elim
end
section
variable {X : Cx} {Wx : WX}
/-- the turns of a comprehension -/
def lcF (t : T) (vs : List Nat) (fc : Sl → Mu → R Bool) (fe : Sl → Mu → R SV) (s : Sl) (d : D) (m2 : Mu) : R (Option D) := match bindT (wipeS s vs) t d with
  | some s2 => (fc s2 m2).bind fun b m3 => if b = true then (fe s2 m3).bind fun x m4 => .ok (some x.fz) m4 else .ok none m3
  | none => .bad
def lcP (X : Cx) (Wx : WX) (W1 : Wd) (H1 : Hp) (σ : L2.St) (Q : VK) (ds : List D) (F : D → Mu → R (Option D)) (D : Addr) (i : Nat) (H : Hp) : Prop :=
  ∃ (W2 : Wd) (m2 : Mu) (acc : List Dp.D) (us : List V), i ≤ ds.length ∧ St0 X.K X.mg W2 m2 H ∧ Step W1 H1 W2 H ∧ H D = some (.lst us) ∧ Reps X.K X.mg W2 acc us ∧ W2.Hf D = none ∧ D ∉ W2.th ∧
    OutG X.K X.mg (SvAt X.K X.mg) Wx W1 H1 σ ((lcL F (ds.drop i) acc m2).bind fun r m5 => .ok (.own (.lst r)) m5) Q
theorem lc_turns {W1 : Wd} {s : Sl} {m1 : Mu} {σ : L2.St} {H1 : Hp} {Q : VK} {ds : List D} {J : It} {t : T} {vs : List Nat} {fc : Sl → Mu → R Bool} {fe : Sl → Mu → R SV} (h1 : Holds X.K X.mg W1 s m1 σ H1) (it : ItOk X.K X.mg W1 ds J) (hv : ∀ i ∈ t.slots, i ∈ vs)
    (o : OutG X.K X.mg (SvAt X.K X.mg) Wx W1 H1 σ ((lcL (lcF t vs fc fe s) ds [] m1).bind fun r m5 => .ok (.own (.lst r)) m5) Q) (D : Addr) (hD : H1 D = none) :
    ∃ Wm : Nat → Nat → Hp → Prop, (∃ m, Wm 0 m (upd H1 D (.lst []))) ∧ ∀ i m H, Wm i m H →
      (J.stop i H ∧ Q (.ref D) H) ∨ (J.go i H ∧ ∃ Nx : Hp → Prop, (∀ H', Nx H' → ∃ m', m' < m ∧ Wm (i + 1) m' H') ∧ ∀ x H', J.yld i H x H' → tGT X.K t x (wipe σ vs) H' fun σ2 H2 => wipe σ2 vs = wipe σ vs ∧ tT X Wx0 fc σ2 H2 fun b H3 =>
        if b = true then tS X Wx0 fe σ2 H3 fun y H4 => ∃ acc, H4 D = some (.lst acc) ∧ acc.length < sizeLine ∧ Nx (upd H4 D (.lst (acc ++ [y]))) else Nx H3) := by
  obtain ⟨x0, p0, n1, n2⟩ := h1.toSt0.made hD (.lst [])
  refine ⟨fun i n H => n = ds.length - i ∧ lcP X Wx W1 H1 σ Q ds (lcF t vs fc fe s) D i H, ⟨_, rfl, W1, m1, [], [], Nat.zero_le _, x0, p0, upd_same, rfl, n1, n2, o⟩, ?_⟩
  rintro i n H ⟨rfl, W2, m2, acc, us, hi, x2, p2, hu, ru, z1, z2, o2⟩
  by_cases hlt : i < ds.length
  · refine .inr ⟨it.go W2 m2 H i p2.le x2 hlt, lcP X Wx W1 H1 σ Q ds (lcF t vs fc fe s) D (i + 1), fun H' q => ⟨ds.length - (i + 1), ?_, rfl, q⟩, fun x H' y => ?_⟩
    · omega
    · obtain ⟨W3, d, hd, x3, p3, rd⟩ := it.yld W2 m2 H i x H' p2.le x2 hlt y
      have ed : ds.drop i = d :: ds.drop (i + 1) := by
        rw [List.drop_eq_getElem_cons hlt]
        have e := hd
        rw [List.getElem?_eq_getElem hlt] at e
        cases e
        rfl
      rw [ed] at o2
      have p13 := p2.trans x2 p3
      have hw := (h1.step p13 x3).wipe vs
      have ob : OutG X.K X.mg (SvAt X.K X.mg) Wx W1 H1 σ (((lcF t vs fc fe s d m2).bindN fun o m1 => (match o with
        | some x => guardR (decide (acc.length < sizeLine)) (lcL (lcF t vs fc fe s) (ds.drop (i + 1)) (acc ++ [x]) m1)
        | none => lcL (lcF t vs fc fe s) (ds.drop (i + 1)) acc m1)).bind fun r m5 => .ok (.own (.lst r)) m5) Q := o2
      cases eF : lcF t vs fc fe s d m2 with
      | bad => rw [eF] at ob; exact ob.elim
      | ex _ _ => rw [eF] at ob; exact ob.elim
      | ok od m6 =>
        rw [eF] at ob
        have ob : OutG X.K X.mg (SvAt X.K X.mg) Wx W1 H1 σ ((match od with
          | some x => guardR (decide (acc.length < sizeLine)) (lcL (lcF t vs fc fe s) (ds.drop (i + 1)) (acc ++ [x]) m6)
          | none => lcL (lcF t vs fc fe s) (ds.drop (i + 1)) acc m6).bind fun r m5 => .ok (.own (.lst r)) m5) Q := ob
        unfold lcF at eF
        cases eb : bindT (wipeS s vs) t d with
        | none => rw [eb] at eF; cases eF
        | some s2 =>
          rw [eb] at eF
          refine bind_ok hw rd eb fun σ2 h3 hwp => ⟨?_, ?_⟩
          · rw [hwp vs hv, wipe_wipe fun i hi => hi]
          · refine ⟨W3, s2, m2, h3, ?_⟩
            have eF : (fc s2 m2).bind (fun b m3 => if b = true then (fe s2 m3).bind fun x m4 => .ok (some x.fz) m4 else .ok none m3) = R.ok od m6 := eF
            cases ec : fc s2 m2 with
            | bad => rw [ec] at eF; cases eF
            | ex _ _ => rw [ec] at eF; cases eF
            | ok b m3 =>
              rw [ec] at eF
              intro W4 b' H3 x4 p4 eb'
              obtain rfl : b = b' := eb'
              have h4 := h3.step p4 x4
              have eF : (if b = true then (fe s2 m3).bind fun x m4 => .ok (some x.fz) m4 else .ok none m3) = R.ok od m6 := eF
              have p14 := p13.trans x3 p4
              have hD3 := p3.keep D _ hu z2
              have w1 := p3.nofz D _ hu z1 z2 (fun _ q => nomatch q)
              have w2 := p3.nth hu z2
              have hD4 := p4.keep D _ hD3 w2
              have w3 := p4.nofz D _ hD3 w1 w2 (fun _ q => nomatch q)
              have w4 := p4.nth hD3 w2
              cases b with
              | false =>
                rw [if_neg Bool.false_ne_true] at eF ⊢
                cases eF
                exact ⟨W4, _, acc, us, hlt, x4, p14, hD4, Reps.mono (p3.le.trans p4.le) _ _ ru, w3, w4, ob⟩
              | true =>
                rw [if_pos rfl] at eF ⊢
                refine ⟨W4, s2, m3, h4, ?_⟩
                cases ee : fe s2 m3 with
                | bad => rw [ee] at eF; cases eF
                | ex _ _ => rw [ee] at eF; cases eF
                | ok xv m4 =>
                  rw [ee] at eF
                  cases eF
                  intro W5 yv H4 x5 p5 sv
                  obtain ⟨W6, h6, p6, r6, l6⟩ := freeze_new h4 p5 (h4.step p5 x5) sv
                  have hD5 := p6.keep D _ hD4 w4
                  have w5 := p6.nofz D _ hD4 w3 w4 (fun _ q => nomatch q)
                  have w6 := p6.nth hD4 w4
                  obtain ⟨gd, ob⟩ := (show (decide (acc.length < sizeLine)) = true ∧ OutG X.K X.mg (SvAt X.K X.mg) Wx W1 H1 σ ((lcL (lcF t vs fc fe s) (ds.drop (i + 1)) (acc ++ [xv.fz]) m6).bind fun r m5 => .ok (.own (.lst r)) m5) Q by
                    cases hg : decide (acc.length < sizeLine) with
                    | false => rw [hg] at ob; exact ob.elim
                    | true => rw [hg] at ob; exact ⟨rfl, ob⟩)
                  have gd := of_decide_eq_true gd
                  have ru6 := Reps.mono ((p3.le.trans p4.le).trans p6.le) _ _ ru
                  refine ⟨us, hD5, by rw [← ru.length]; exact gd, W6, m6, acc ++ [xv.fz], us ++ [yv], hlt, h6.toSt0.write w5 w6 _, (p14.trans x4 p6).updFresh hD _, upd_same, ru6.append (Reps.one r6), w5, w6, ob⟩
  · have e : i = ds.length := by omega
    subst e
    refine .inl ⟨it.stop W2 m2 H _ p2.le x2 (Nat.le_refl _), ?_⟩
    rw [List.drop_length] at o2
    exact o2.fin2 x2 p2 ⟨D, rfl, ⟨⟨us, hu, ru⟩, z1, z2⟩, hD⟩
theorem de_lc (hc : X.calm = true) (hN : X.N.Nodup) {elt tg iter : Expr} {ifs : List Expr} {scope : Scope} {own : List (Str × Nat)} {pos : Pos} {t : T} {fi : Sl → Mu → R (List D)} {fc : Sl → Mu → R Bool} {fe : Sl → Mu → R SV} (hi : PI X tg iter (tI X Wx fi)) (ok : BlkOk X.N X.env.scope scope own) (hv : ∀ i ∈ t.slots, i ∈ own.map (·.2))
    (hg : ∀ (s : Shared) (H : Hp) (C : Addr) (cl : List (Str × Addr)) (fp : List Addr), PG (X.blk s H scope (compEnvC scope cl C X.env) fp) tg (tGT X.K t)) (ht : ∀ (s : Shared) (H : Hp) (C : Addr) (cl : List (Str × Addr)) (fp : List Addr), PTs (X.blk s H scope (compEnvC scope cl C X.env) fp) ifs (tT X Wx0 fc))
    (he : ∀ (s : Shared) (H : Hp) (C : Addr) (cl : List (Str × Addr)) (fp : List Addr), PE (X.blk s H scope (compEnvC scope cl C X.env) fp) elt (tS X Wx0 fe)) (hs : ∀ x, foldedSetIterable iter X.env x = pure x) :
    PE X (.ListComp elt [⟨tg, iter, ifs, 0⟩] scope pos) (tS X Wx fun s m => (fi s m).bind fun ds m1 => (lcL (lcF t (own.map (·.2)) fc fe s) ds [] m1).bind fun r m5 => .ok (.own (.lst r)) m5) := by
  refine pe_imp (pe_lc hc hN hi ok hg ht he hs) fun σ H Q ⟨W, s, m, hs, o⟩ => ?_
  refine run rb_sv hs o fun ds m1 W1 J H1 _ h1 p1 it o1 D hD => ?_
  exact lc_turns h1 it hv o1 D hD
theorem dts_nil {X : Cx} : PTs X [] (tT X Wx0 fun _ m => .ok true m) := ⟨fun pins s σ H Q I ⟨W, sl, m, hs, o⟩ => pts_nil.run pins s σ H Q I (o.fin hs.toSt0 rfl)⟩
theorem dts_one {X : Cx} {c : Expr} {f : Sl → Mu → R Bool} (h : PT X c (tT X Wx0 f)) : PTs X [c] (tT X Wx0 f) := pts_one h
end
end Dp
end

section
set_option Elab.async false
set_option linter.all false
set_option maxRecDepth 100000
set_option maxHeartbeats 1000000
/-! The deep layer, part 12: calls. -/
namespace Dp
open PySem PySem.Spec PyProof.Rows L2
/-! ### a def's promise -/
def WE0 (E : XK) : WX := fun cls d _ H => E cls d H
def spF (G : Prog) (K : PySem.W.Frag) (mg : Str → Option Value) (n k : Nat) : Sp := fun vs H Q E =>
  ∃ (f : Fn) (W : Wd) (ds : List D) (m : Mu), G.fns[k]? = some f ∧ ds.length = f.ps.length ∧ St0 K mg W m H ∧ Reps K mg W ds vs ∧ OutG K mg (SvAt K mg) (WE0 E) W H [] (callN G n k ds m) Q
structure FnF (G : Prog) (P : Program) (w : World) (K : PySem.W.Frag) (mg : Str → Option Value) (base : Heap) (n k : Nat) (f : Fn) : Prop where
  ok : ∃ fd, FnOk P w K mg base (L2.CX P w) (2 * n) (He.fAd K f.at_) fd f.ps (spF G K mg n k) ∧
    ∀ j, j ≤ f.ps.length → f.ps.length ≤ j + f.dfl.length → ∃ (dvs : List V) (ds : List Value), Vals dvs ds ∧ Binds K fd f.ps ds ∧ ∀ W : Wd, Reps K mg W (f.dfl.drop (j + f.dfl.length - f.ps.length)) dvs
  kp : PySem.W.keepIn K (.ref (He.fAd K f.at_)) = true
structure Xok (G : Prog) (n : Nat) (X : Cx) (Wx : WX) : Prop where
  calm : X.calm = true
  nd : X.N.Nodup
  room : Room (2 * n + 1) X.A
  tk : Takes X Wx
  fx : Fx G X.K X.mg
  fns : ∀ k f, G.fns[k]? = some f → FnF G X.prog X.w X.K X.mg X.base n k f
theorem Xok.units {G : Prog} {n : Nat} {X : Cx} {Wx : WX} (x : Xok G n X Wx) : X.A.units + 200 < cLine := by
  have := x.room.un
  omega
theorem Xok.blk {G : Prog} {n : Nat} {X : Cx} {Wx : WX} (x : Xok G n X Wx) (s : Shared) (H : Hp) (scope : Scope) (cenv : Env) (fp : List Addr) : Xok G n (X.blk s H scope cenv fp) Wx0 where
  calm := x.calm
  nd := x.nd
  room := x.room
  tk := takes0
  fx := x.fx
  fns := x.fns
theorem OutG.wx {K : PySem.W.Frag} {mg : Str → Option Value} {α β : Type} {A : Wd → Hp → Hp → α → β → Prop} {Wx : WX} {W : Wd} {H : Hp} {σ σ' : L2.St} {r : R α} {Q : β → Hp → Prop} (h : OutG K mg A Wx W H σ r Q) : OutG K mg A (WE0 (WE Wx σ)) W H σ' r Q := by
  cases r with
  | ok a m => exact h
  | ex x m => exact h
  | bad => exact h
theorem fill_len {f : Fn} {ds : List D} {j : Nat} (h : (fill f ds).length = f.ps.length) : ds.length ≤ f.ps.length ∧ f.ps.length ≤ ds.length + f.dfl.length := by
  unfold fill at h
  rw [List.length_append, List.length_drop] at h
  omega
theorem fill_fill {f : Fn} {ds : List D} (h : (fill f ds).length = f.ps.length) : fill f (fill f ds) = fill f ds := by
  have : (fill f ds).length + f.dfl.length - f.ps.length = f.dfl.length := by omega
  show fill f ds ++ f.dfl.drop ((fill f ds).length + f.dfl.length - f.ps.length) = _
  rw [this, List.drop_length, List.append_nil]
theorem callN_fill {G : Prog} {n k : Nat} {f : Fn} {ds : List D} {m : Mu} (hf : G.fns[k]? = some f) (h : (fill f ds).length = f.ps.length) : callN G n k (fill f ds) m = callN G n k ds m := by
  cases n with
  | zero => rfl
  | succ n =>
    unfold callN
    rw [hf]
    dsimp only
    rw [fill_fill h]
theorem callN_ok {G : Prog} {n k : Nat} {f : Fn} {ds : List D} {m : Mu} (hf : G.fns[k]? = some f) (h : callN G n k ds m ≠ .bad) : (fill f ds).length = f.ps.length := by
  cases n with
  | zero => exact absurd rfl h
  | succ n =>
    unfold callN at h
    rw [hf] at h
    dsimp only at h
    split at h
    · assumption
    · exact absurd rfl h
theorem callN_fn {G : Prog} {n k : Nat} {ds : List D} {m : Mu} (h : callN G n k ds m ≠ .bad) : ∃ f, G.fns[k]? = some f := by
  cases n with
  | zero => exact absurd rfl h
  | succ n =>
    unfold callN at h
    cases e : G.fns[k]? with
    | none => rw [e] at h; exact absurd rfl h
    | some f => exact ⟨f, rfl⟩
theorem out_nb {K : PySem.W.Frag} {mg : Str → Option Value} {α β : Type} {A : Wd → Hp → Hp → α → β → Prop} {Wx : WX} {W : Wd} {H : Hp} {σ : L2.St} {r : R α} {Q : β → Hp → Prop} (h : OutG K mg A Wx W H σ r Q) : r ≠ .bad := fun e => by
  rw [e] at h
  exact h
section
variable {X : Cx} {Wx : WX} {G : Prog} {n : Nat}
theorem lookup_zip_none {f : Str} : ∀ {ns : List Str} {vs : List V}, f ∉ ns → (ns.zip vs).lookup f = none
  | [], _, _ => rfl
  | _ :: _, [], _ => rfl
  | g :: ns, v :: vs, h => by
    simp only [List.mem_cons, not_or] at h
    rw [List.zip_cons_cons, List.lookup_cons, beq_eq_false_iff_ne.mpr h.1]
    exact lookup_zip_none h.2
/-- what is asked of a callee -/
theorem sp_of {W : Wd} {m : Mu} {H : Hp} {σ : L2.St} {Q : VK} {k : Nat} {f : Fn} {ds : List D} {vs dvs : List V} (hf : G.fns[k]? = some f) (hl : (fill f ds).length = f.ps.length) (st : St0 X.K X.mg W m H) (r : Reps X.K X.mg W ds vs) (rd : Reps X.K X.mg W (f.dfl.drop (ds.length + f.dfl.length - f.ps.length)) dvs)
    (o : OutG X.K X.mg (SvAt X.K X.mg) Wx W H σ (callN G n k ds m) Q) : spF G X.K X.mg n k (vs ++ dvs) H Q (WE Wx σ) :=
  ⟨f, W, fill f ds, m, hf, hl, st, r.append rd, by rw [callN_fill hf hl]; exact o.wx⟩
theorem run_at {A' : Around} {CX : CXT} {k : Nat} {f : Addr} {fd : FuncData} {ps : List Str} {sp : Sp} {dvs : List V} {ds : List Value} {E : XK} {pins : List (Addr × Obj)} {σ : L2.St} {H : Hp} {s : Shared} {Q : VK} {us : List Value} {vs : List V} (F : FnOk X.prog X.w X.K X.mg X.base CX k f fd ps sp) (hr : Room k A')
    (e0 : Env0 X.prog X.w X.K X.mg X.base A' X.stack s H) (hb : Binds X.K fd ps ds) (hd : Vals dvs ds) (hx : PassesAt CX X σ E)
    (I : L2.Inv X pins σ H s) (r : Vals vs us) (h : sp (vs ++ dvs) H Q E) : wpAny (model X.prog X.w) A' (call (.ref f) us) (EP X pins σ Q) X.xe s := by
  have r2 : Vals (vs ++ dvs) (us ++ ds) := r.append hd
  have hl : (us ++ ds).length = ps.length := by rw [← r2.length]; exact F.len _ _ _ _ h
  refine wpAny_call (codeAny_mono (F.run A' X.stack s H ⟨us, []⟩ (us ++ ds) (vs ++ dvs) Q E hr e0 (hb s us I.kIn hl) r2 h) fun r s' hq => ?_)
  cases r with
  | error e => exact hx pins H s e s' I hq
  | ok fl =>
    cases fl with
    | ret u => exact I.after hq
    | next => exact False.elim hq
    | brk => exact False.elim hq
    | cont => exact False.elim hq
/-- THE CALL of the k-th def -/
theorem run_fnk (x : Xok G n X Wx) {pins : List (Addr × Obj)} {σ : L2.St} {W : Wd} {m : Mu} {H : Hp} {s : Shared} {Q : VK} {k : Nat} {f : Fn} {ds : List D} {vs : List V} {us : List Value} (hf : G.fns[k]? = some f) (I : L2.Inv X pins σ H s) (r : Vals vs us) (st : St0 X.K X.mg W m H) (rd : Reps X.K X.mg W ds vs)
    (o : OutG X.K X.mg (SvAt X.K X.mg) Wx W H σ (callN G n k ds m) Q) : wpAny (model X.prog X.w) X.A (call (.ref (He.fAd X.K f.at_)) us) (EP X pins σ Q) X.xe s := by
  have hl := callN_ok hf (out_nb o)
  obtain ⟨fd, F, B⟩ := (x.fns k f hf).ok
  obtain ⟨h1, h2⟩ := fill_len (j := 0) hl
  obtain ⟨dvs, dz, vd, bd, rdd⟩ := B ds.length h1 h2
  exact run_at F (x.room.mono (by omega)) I.env0 bd vd (passAt x.tk σ) I r (sp_of hf hl st rd (rdd W) o)
theorem glo_fad {K : PySem.W.Frag} {f : Fn} (h : f.at_.2 = none) : He.fAd K f.at_ = He.ga K f.at_.1 := by
  unfold He.fAd
  rw [h]
/-- f(e, ..) -/
theorem de_call (x : Xok G n X Wx) {k : Nat} {f : Fn} {e : Expr} {es : List Expr} {p pos : Pos} {fa : Sl → Mu → R (List D)} (hf : G.fns[k]? = some f) (hat : f.at_.2 = none) (hdb : (f.at_.1 == ("__debug__" : Str)) = false) (hg : Gl X f.at_.1) (n1 : noStar e = true) (n2 : es.all noStar = true) (ha : PA X (e :: es) (tL X Wx fa)) :
    PE X (.Call (.Name f.at_.1 p) (e :: es) [] pos) (tS X Wx fun s m => (fa s m).bind fun ds m1 => callN G n k ds m1) := by
  refine ⟨fun pins s σ H Q I h => ?_⟩
  have hm := x.fx.glo f (List.mem_of_getElem? hf) hat
  have kp := (x.fns k f hf).kp
  have fin : tL X Wx fa σ H fun vs H1 => ∃ (W1 : Wd) (m1 : Mu) (ds : List D), St0 X.K X.mg W1 m1 H1 ∧ Reps X.K X.mg W1 ds vs ∧ OutG X.K X.mg (SvAt X.K X.mg) Wx W1 H1 σ (callN G n k ds m1) Q := by
    obtain ⟨W, sl, m, hs, o⟩ := h
    exact run rb_sv hs o fun ds m1 W1 vs H1 _ h1 p1 r o1 => ⟨W1, m1, ds, h1.toSt0, r, o1⟩
  refine wpAny_Call_Name_kw (ld_glob I hg hm ?_ hdb)
  rw [← glo_fad hat]
  refine PySem.W.callWith_K (h₀ := X.base) I.ok.mod.kin kp (thn (ha.run pos pins s σ H _ I fin) fun us s1 ⟨vs, H1, I1, r, W1, m1, ds, st, rd, o1⟩ => ⟨I1.kIn, ?_⟩) (star_cons n1) (star_any n2)
  exact run_fnk x hf I1 r st rd o1
theorem de_call0 (x : Xok G n X Wx) {k : Nat} {f : Fn} {p pos : Pos} (hf : G.fns[k]? = some f) (hat : f.at_.2 = none) (hdb : (f.at_.1 == ("__debug__" : Str)) = false) (hg : Gl X f.at_.1) :
    PE X (.Call (.Name f.at_.1 p) [] [] pos) (tS X Wx fun s m => callN G n k [] m) := by
  refine ⟨fun pins s σ H Q I ⟨W, sl, m, hs, o⟩ => ?_⟩
  have hm := x.fx.glo f (List.mem_of_getElem? hf) hat
  have kp := (x.fns k f hf).kp
  refine wpAny_Call_Name_kw (ld_glob I hg hm ?_ hdb)
  rw [← glo_fad hat]
  exact PySem.W.callWith_K0 I.kIn kp (run_fnk x hf I .nil hs.toSt0 Reps.nil o)
/-- an instance's method -/
theorem de_meth (x : Xok G n X Wx) {o e : Expr} {es : List Expr} {mn : Str} {cs : List (Str × Nat)} {apos pos : Pos} {pl : Sem Bool} {fo : Sl → Mu → R SV} {fa : Sl → Mu → R (List D)} (hcs : ∀ c k, cs.lookup c = some k → ((c, mn), k) ∈ G.mets) (ho : PE X o (tS X Wx fo)) (n1 : noStar e = true) (n2 : es.all noStar = true) (ha : PA X (e :: es) (tL X Wx fa))
    (ht : eval (.Call (.Attribute o mn apos) (e :: es) [] pos) X.env = (do
      let ov ← eval o X.env
      standAt apos.atName
      let (f, first) ← holding [ov] (getMethod ov mn pl)
      callWith pos f first (backTo pos (starEach (e :: es) X.env)) (backToKw pos (keywordEach [] X.env)))) :
    PE X (.Call (.Attribute o mn apos) (e :: es) [] pos) (tS X Wx fun s m => (fo s m).bind fun x m1 => (match seeD m1 x.fz with
    | .ins c ns _ => (match cs.lookup c with
      | some k => guardR (!ns.contains mn) ((fa s m1).bind fun ds m2 => callN G n k (x.fz :: ds) m2)
      | none => .bad)
    | _ => .bad)) := by
  refine ⟨fun pins s σ H Q I ⟨W, sl, m, hs, out⟩ => ?_⟩
  refine methcall_of ho I (runz rb_sv hs out fun xv m1 W1 v H1 h1 p1 av o1 => ?_) ht
  split at o1
  · rename_i c ns fs e1
    split at o1
    · rename_i k e2
      obtain ⟨g, o1⟩ := guard_t o1
      have hv := see_rep (m := m1) h1.toSt0 av
      rw [e1] at hv
      obtain ⟨a, dx, vs, rfl, hh, hl, rr⟩ := hv.ins h1.sub
      obtain ⟨f, hf, cl, me⟩ := x.fx.mets _ (hcs c k e2)
      refine ⟨a, _, dx, _, _, rfl, hh, cl, me, ?_, fun s1 I1 => ?_⟩
      · have : mn ∉ ns := by simpa using g
        exact lookup_zip_none this
      · have fin : tL X Wx fa σ H1 fun vs H2 => ∃ (W2 : Wd) (m2 : Mu) (ds : List D), St0 X.K X.mg W2 m2 H2 ∧ Rep X.K X.mg W2 xv.fz (.ref a) ∧ Reps X.K X.mg W2 ds vs ∧ OutG X.K X.mg (SvAt X.K X.mg) Wx W2 H2 σ (callN G n k (xv.fz :: ds) m2) Q :=
          run rb_sv h1 o1 fun ds m2 W2 vs H2 _ h2 p2 r o2 => ⟨W2, m2, ds, h2.toSt0, Rep.mono p2.le _ _ av, r, o2⟩
        refine PySem.W.callWith_K (first := [.ref a]) (h₀ := X.base) I1.ok.mod.kin me.kp (thn (ha.run pos pins s1 σ H1 _ I1 fin) fun us s2 ⟨vs, H2, I2, r, W2, m2, ds, st, ra, rd, o2⟩ => ⟨I2.kIn, ?_⟩) (star_cons n1) (star_any n2)
        exact run_fnk x (vs := V.ref a :: vs) (us := Value.ref a :: us) hf I2 (.cons rfl r) st (Reps.cons ra rd) o2
    · exact o1.elim
  · exact o1.elim
end
end Dp
end

section
set_option Elab.async false
set_option linter.all false
set_option maxRecDepth 100000
set_option maxHeartbeats 1000000
/-! The deep layer, part 13: instances, shared cells, dicts. -/
namespace Dp
open PySem PySem.Spec PyProof.Rows L2
/-! ### trees of calls -/
def noSup : Expr → Bool
  | .Call (.Name _ _) [] [] _ => false
  | _ => true
theorem base_eq {o : Expr} {attr : Str} {env : Env} {whole : Sem Value} (h : noSup o = true) : attributeBase o attr env whole = whole := by
  unfold attributeBase
  split
  · cases h
  · rfl
theorem star_all {pos : Pos} {env : Env} : ∀ {es : List Expr}, es.all noStar = true → (backTo pos (starEach es env)).all (!·.1) = true
  | [], _ => rfl
  | e :: es, h => by
    obtain ⟨h1, h2⟩ := Bool.and_eq_true_iff.mp (show (noStar e && es.all noStar) = true from h)
    rw [star_cons h1]
    show (true && (backTo pos (starEach es env)).all (!·.1)) = true
    rw [star_all h2]
    rfl
theorem meth_tree {o : Expr} {mn : Str} {apos pos : Pos} {args : List Expr} {env : Env} (h1 : noSup o = true) (hn : args.all noStar = true) (hl : (apos.endLine == pos.line) = true) (hf : args.length < 30) :
    eval (.Call (.Attribute o mn apos) args [] pos) env = (do
      let ov ← eval o env
      standAt apos.atName
      let (f, first) ← holding [ov] (getMethod ov mn (do return (← importBound o env).getD true))
      callWith pos f first (backTo pos (starEach args env)) (backToKw pos (keywordEach [] env))) := by
  have e0 : methodCallForm (args.length + 0) (backTo pos (starEach args env)) [] = true := by
    unfold methodCallForm
    rw [star_all hn]
    simp [hf]
  show (do
      let ov ← attributeBase o mn env (eval o env)
      standAt apos.atName
      methodCall o mn apos pos env ov (args.length + 0) (backTo pos (starEach args env)) []) = _
  rw [base_eq h1]
  unfold methodCall
  rw [e0]
  unfold calleeOf methodCallPos
  rw [hl]
  rfl
/-! ### shared cells -/
section
variable {K : PySem.W.Frag} {mg : Str → Option Value} {W W1 W2 : Wd} {H H1 H2 : Hp} {m m1 m2 : Mu}
theorem St0.setCell (x : St0 K mg W m H) {i : Nat} {a : Addr} {c : Cell} {o : HO} (hi : W.th[i]? = some a) (hc : CellAt K mg W (upd H a o) a c) : St0 K mg W (m.set i c) (upd H a o) ∧ Step W H W (upd H a o) := by
  have ha : a ∈ W.th := List.mem_of_getElem? hi
  refine ⟨⟨sub_upd x.sub (x.nf a ha) o, by rw [List.length_set]; exact x.len, fun j b c' e1 e2 => ?_, x.nf, x.nd⟩, ⟨Same.refl _, ⟨[], by simp, by simp⟩, fun b u e n => ?_, fun _ _ _ h _ _ => h⟩⟩
  · by_cases hj : i = j
    · subst hj
      rw [hi] at e1
      cases e1
      have hl : i < m.length := by rw [← x.len]; exact (List.getElem?_eq_some_iff.mp hi).1
      rw [List.getElem?_set_self hl] at e2
      cases e2
      exact hc
    · rw [List.getElem?_set_ne hj] at e2
      have hb : b ≠ a := fun z => by
        subst z
        exact hj ((List.getElem?_inj (List.getElem?_eq_some_iff.mp hi).1 x.nd).mp (hi.trans e1.symm))
      exact (x.cell j b c' e1 e2).mono (Le.refl W) fun u e => by rw [upd_ne hb]; exact e
  · have hb : b ≠ a := fun z => n (by rw [z]; exact ha)
    rw [upd_ne hb]
    exact e
theorem St0.share (x : St0 K mg W m H) {p : Addr} (hp : H p = none) {o : HO} {c : Cell} (hc : CellAt K mg W (upd H p o) p c) : St0 K mg ⟨W.Hf, W.th ++ [p]⟩ (m ++ [c]) (upd H p o) ∧ Step W H ⟨W.Hf, W.th ++ [p]⟩ (upd H p o) := by
  have hn := Same.none x.sub hp
  have nt : p ∉ W.th := fun z => by
    obtain ⟨o', e⟩ := x.live z
    rw [hp] at e
    cases e
  have l : Le W ⟨W.Hf, W.th ++ [p]⟩ := ⟨Same.refl _, [p], rfl⟩
  refine ⟨⟨sub_upd x.sub hn o, by simp [x.len], fun j b c' e1 e2 => ?_, fun a ha => ?_, ?_⟩, ⟨Same.refl _, ⟨[p], rfl, fun a ha => by rw [List.mem_singleton.mp ha]; exact hp⟩, fun b u e n => by rw [upd_ne (ne_of_none e hp)]; exact e, fun _ _ _ h _ _ => h⟩⟩
  · have e1 : (W.th ++ [p])[j]? = some b := e1
    by_cases hj : j < W.th.length
    · rw [List.getElem?_append_left hj] at e1
      rw [List.getElem?_append_left (by rw [← x.len]; exact hj)] at e2
      have hb : b ≠ p := fun z => nt (z ▸ List.mem_of_getElem? e1)
      exact (x.cell j b c' e1 e2).mono l fun u e => by rw [upd_ne hb]; exact e
    · have ej : j = W.th.length := by
        have := (List.getElem?_eq_some_iff.mp e1).1
        simp at this
        omega
      subst ej
      rw [List.getElem?_append_right (Nat.le_refl _)] at e1
      rw [x.len, List.getElem?_append_right (Nat.le_refl _)] at e2
      simp at e1 e2
      subst e1 e2
      exact hc.mono l fun u e => e
  · rcases List.mem_append.mp (show a ∈ W.th ++ [p] from ha) with z | z
    · exact x.nf a z
    · rw [List.mem_singleton.mp z]; exact hn
  · show (W.th ++ [p]).Nodup
    rw [List.nodup_append]
    exact ⟨x.nd, by simp, fun a ha b hb e => nt (by rw [← List.mem_singleton.mp hb, ← e]; exact ha)⟩
mutual
theorem rep_lo {th th' : List Addr} {Hf : Hp} {n : Nat} (hn : ∀ i : Nat, i < n → th'[i]? = th[i]?) : ∀ (d : D) (v : V), D.lo n d = true → Rep K mg ⟨Hf, th⟩ d v → Rep K mg ⟨Hf, th'⟩ d v
  | .non, _, _, h => h
  | .bl _, _, _, h => h
  | .int _, _, _, h => h
  | .str _, _, _, h => h
  | .tup ds, _, l, ⟨a, vs, e, h, r⟩ => ⟨a, vs, e, h, reps_lo hn ds vs l r⟩
  | .lst ds, _, l, ⟨a, vs, e, h, r⟩ => ⟨a, vs, e, h, reps_lo hn ds vs l r⟩
  | .seq ds, _, l, ⟨a, vs, e, h, r⟩ => ⟨a, vs, e, h, reps_lo hn ds vs l r⟩
  | .dk _ ds, _, l, ⟨a, vs, e, h, k, r⟩ => ⟨a, vs, e, h, k, reps_lo hn ds vs l r⟩
  | .dt _ ds, _, l, ⟨a, vs, e, h, k, r⟩ => ⟨a, vs, e, h, k, reps_lo hn ds vs l r⟩
  | .ins _ _ ds, _, l, ⟨a, dx, vs, e, h, k, r⟩ => ⟨a, dx, vs, e, h, k, reps_lo hn ds vs l r⟩
  | .ref i, _, l, ⟨a, e, h⟩ => ⟨a, e, (hn i (of_decide_eq_true l)).trans h⟩
  | .gl _, _, _, h => h
theorem reps_lo {th th' : List Addr} {Hf : Hp} {n : Nat} (hn : ∀ i : Nat, i < n → th'[i]? = th[i]?) : ∀ (ds : List D) (vs : List V), D.los n ds = true → Reps K mg ⟨Hf, th⟩ ds vs → Reps K mg ⟨Hf, th'⟩ ds vs
  | [], _, _, h => h
  | d :: ds, _, l, ⟨v, r, e, h, t⟩ => by
    obtain ⟨l1, l2⟩ := Bool.and_eq_true_iff.mp (show (D.lo n d && D.los n ds) = true from l)
    exact ⟨v, r, e, rep_lo hn d v l1 h, reps_lo hn ds r l2 t⟩
end
mutual
theorem rep_los {th : List Addr} {Hf : Hp} {n : Nat} (hn : th.length ≤ n) : ∀ (d : D) (v : V), Rep K mg ⟨Hf, th⟩ d v → D.lo n d = true
  | .non, _, _ => rfl
  | .bl _, _, _ => rfl
  | .int _, _, _ => rfl
  | .str _, _, _ => rfl
  | .tup ds, _, ⟨a, vs, e, h, r⟩ => reps_los hn ds vs r
  | .lst ds, _, ⟨a, vs, e, h, r⟩ => reps_los hn ds vs r
  | .seq ds, _, ⟨a, vs, e, h, r⟩ => reps_los hn ds vs r
  | .dk _ ds, _, ⟨a, vs, e, h, k, r⟩ => reps_los hn ds vs r
  | .dt _ ds, _, ⟨a, vs, e, h, k, r⟩ => reps_los hn ds vs r
  | .ins _ _ ds, _, ⟨a, dx, vs, e, h, k, r⟩ => reps_los hn ds vs r
  | .ref i, _, ⟨a, e, h⟩ => by
    have := (List.getElem?_eq_some_iff.mp (show th[i]? = some a from h)).1
    exact decide_eq_true (by omega)
  | .gl _, _, _ => rfl
theorem reps_los {th : List Addr} {Hf : Hp} {n : Nat} (hn : th.length ≤ n) : ∀ (ds : List D) (vs : List V), Reps K mg ⟨Hf, th⟩ ds vs → D.los n ds = true
  | [], _, _ => rfl
  | d :: ds, _, ⟨v, r, e, h, t⟩ => by
    show (D.lo n d && D.los n ds) = true
    rw [rep_los hn d v h, reps_los hn ds r t]
    rfl
end
theorem cell_lo {th th' : List Addr} {Hf : Hp} {n : Nat} {a : Addr} {c : Cell} (hn : ∀ i : Nat, i < n → th'[i]? = th[i]?) (l : D.lo n c.fz = true) (h : CellAt K mg ⟨Hf, th⟩ H a c) : CellAt K mg ⟨Hf, th'⟩ H a c := by
  cases c with
  | lst ds => obtain ⟨vs, e, r⟩ := h; exact ⟨vs, e, reps_lo hn ds vs l r⟩
  | dk ks ds => obtain ⟨vs, e, k, r⟩ := h; exact ⟨vs, e, k, reps_lo hn ds vs l r⟩
  | dt ks ds => obtain ⟨vs, e, k, r⟩ := h; exact ⟨vs, e, k, reps_lo hn ds vs l r⟩
  | ins c ns ds => obtain ⟨dx, vs, e, k, r⟩ := h; exact ⟨dx, vs, e, k, reps_lo hn ds vs l r⟩
theorem cell_los {th : List Addr} {Hf : Hp} {n : Nat} {a : Addr} {c : Cell} (hn : th.length ≤ n) (h : CellAt K mg ⟨Hf, th⟩ H a c) : D.lo n c.fz = true := by
  cases c with
  | lst ds => obtain ⟨vs, e, r⟩ := h; exact reps_los hn ds vs r
  | dk ks ds => obtain ⟨vs, e, k, r⟩ := h; exact reps_los hn ds vs r
  | dt ks ds => obtain ⟨vs, e, k, r⟩ := h; exact reps_los hn ds vs r
  | ins c ns ds => obtain ⟨dx, vs, e, k, r⟩ := h; exact reps_los hn ds vs r
/-- the last shared cell becomes one's own -/
theorem St0.pop (x : St0 K mg W m H) {Hf : Hp} {th : List Addr} {p : Addr} {c : Cell} {H' : Hp} (x2 : St0 K mg ⟨Hf, th ++ [p]⟩ (m ++ [c]) H') (hl : D.lo m.length c.fz = true) (ht : W.th = th) : St0 K mg ⟨Hf, th⟩ m H' ∧ Own K mg ⟨Hf, th⟩ H' p c := by
  have hlen : th.length = m.length := by rw [← ht]; exact x.len
  have hn : ∀ i : Nat, i < m.length → th[i]? = (th ++ [p])[i]? := fun i hi => by rw [List.getElem?_append_left (by rw [hlen]; exact hi)]
  have nd : (th ++ [p]).Nodup := x2.nd
  have np : p ∉ th := fun z => by
    rw [List.nodup_append] at nd
    exact nd.2.2 p z p (by simp) rfl
  have hp : (th ++ [p])[m.length]? = some p := by rw [← hlen]; simp
  have hc : (m ++ [c])[m.length]? = some c := by simp
  refine ⟨⟨x2.sub, hlen, fun i a c' e1 e2 => ?_, fun a ha => x2.nf a (List.mem_append_left _ ha), (List.nodup_append.mp nd).1⟩, ⟨cell_lo hn hl (x2.cell _ p c hp hc), x2.nf p (by simp), np⟩⟩
  have hi : i < m.length := (List.getElem?_eq_some_iff.mp e2).1
  have e1' : (th ++ [p])[i]? = some a := by rw [← hn i hi]; exact e1
  have e2' : (m ++ [c])[i]? = some c' := by rw [List.getElem?_append_left hi]; exact e2
  refine cell_lo hn ?_ (x2.cell i a c' e1' e2')
  exact cell_los (th := W.th) (Hf := W.Hf) (by rw [x.len]; exact Nat.le_refl _) (x.cell i a c' (by rw [ht]; exact e1) e2)
end
section
variable {X : Cx} {Wx : WX} {G : Prog} {n : Nat}
theorem de_gint (x : Xok G n X Wx) {z : Str} {i : Int} {pos : Pos} (h : (z, i) ∈ G.gints) (hg : Gl X z) (hd : (z == ("__debug__" : Str)) = false) : PE X (.Name z pos) (tS X Wx fun _ m => .ok (.val (.int i)) m) := by
  obtain ⟨u, e, r⟩ := x.fx.gint _ h
  exact de_c (pe_glob hg e r hd) fun _ => rfl
/-- o.m() of an instance -/
theorem de_meth0 (x : Xok G n X Wx) {o : Expr} {mn : Str} {cs : List (Str × Nat)} {apos pos : Pos} {fo : Sl → Mu → R SV} (hcs : ∀ c k, cs.lookup c = some k → ((c, mn), k) ∈ G.mets) (ho : PE X o (tS X Wx fo)) (h1 : noSup o = true) (hl : (apos.endLine == pos.line) = true) :
    PE X (.Call (.Attribute o mn apos) [] [] pos) (tS X Wx fun s m => (fo s m).bind fun x m1 => (match seeD m1 x.fz with
    | .ins c ns _ => (match cs.lookup c with
      | some k => guardR (!ns.contains mn) ((R.ok [] m1).bind fun ds m2 => callN G n k (x.fz :: ds) m2)
      | none => .bad)
    | _ => .bad)) := by
  refine ⟨fun pins s σ H Q I ⟨W, sl, m, hs, out⟩ => ?_⟩
  refine methcall_of ho I (runz rb_sv hs out fun xv m1 W1 v H1 h1 p1 av o1 => ?_) (meth_tree h1 rfl hl (by simp))
  split at o1
  · rename_i c ns fs e1
    split at o1
    · rename_i k e2
      obtain ⟨g, o1⟩ := guard_t o1
      have hv := see_rep (m := m1) h1.toSt0 av
      rw [e1] at hv
      obtain ⟨a, dx, vs, rfl, hh, hl, rr⟩ := hv.ins h1.sub
      obtain ⟨f, hf, cl, me⟩ := x.fx.mets _ (hcs c k e2)
      refine ⟨a, _, dx, _, _, rfl, hh, cl, me, ?_, fun s1 I1 => ?_⟩
      · have : mn ∉ ns := by simpa using g
        exact lookup_zip_none this
      · exact PySem.W.callWith_K0 (first := [.ref a]) I1.kIn me.kp (run_fnk x (vs := [V.ref a]) (us := [Value.ref a]) hf I1 (.cons rfl .nil) h1.toSt0 (Reps.one av) o1)
    · exact o1.elim
  · exact o1.elim
theorem getF_rep {K : PySem.W.Frag} {mg : Str → Option Value} {W : Wd} {f : Str} : ∀ {ns : List Str} {ds : List D} {vs : List V} {d : D}, Reps K mg W ds vs → getFD f ns ds = some d → ∃ v, (ns.zip vs).lookup f = some v ∧ Rep K mg W d v
  | [], _, _, _, _, e => by cases e
  | _ :: _, [], _, _, _, e => by cases e
  | g :: ns, d' :: ds, _, d, ⟨v, r, e0, h, t⟩, e => by
    subst e0
    have e : (if f = g then some d' else getFD f ns ds) = some d := e
    rw [List.zip_cons_cons, List.lookup_cons]
    by_cases hg : f = g
    · rw [if_pos hg] at e
      cases e
      rw [beq_iff_eq.mpr hg]
      exact ⟨v, rfl, h⟩
    · rw [if_neg hg] at e
      rw [beq_eq_false_iff_ne.mpr hg]
      exact getF_rep t e
theorem lookup_str {α : Type} {a : Str} {b : α} {l : List (Str × α)} (h : l.lookup a = some b) : (a, b) ∈ l := mem_of_lookup h
theorem de_attr (x : Xok G n X Wx) {o : Expr} {f : Str} {pos : Pos} {fo : Sl → Mu → R D} (ho : PE X o (tP X Wx fo)) (h1 : noSup o = true) :
    PE X (.Attribute o f pos) (tS X Wx fun s m => (fo s m).bind fun x m1 => (match seeD m1 x with
    | .ins c ns ds => (match G.flds.lookup c, getFD f ns ds with
      | some fl, some d => guardR (decide (f ∈ fl)) (.ok (.val d) m1)
      | _, _ => .bad)
    | _ => .bad)) := by
  refine pe_imp (pe_fld ho (base_eq h1)) fun σ H Q ⟨W, s, m, hs, out⟩ => ?_
  refine run rb_sv hs out fun xv m1 W1 v H1 _ h1 p1 av o1 => ?_
  have hv := see (m := m1) h1.toSt0 av
  split at o1
  · rename_i c ns ds e1
    rw [e1] at hv
    split at o1
    · rename_i fl d e2 e3
      obtain ⟨g, o1⟩ := guard_t o1
      obtain ⟨a, dx, vs, rfl, hh, hl, rr⟩ := hv.ins h1.sub
      obtain ⟨w, e4, rd⟩ := getF_rep rr e3
      obtain ⟨cl, na⟩ := x.fx.fld _ (lookup_str e2)
      exact ⟨a, _, dx, _, w, rfl, hh, cl, na f (of_decide_eq_true g), e4, o1.fin h1.toSt0 rd⟩
    · exact o1.elim
  · exact o1.elim
theorem run_makeA {CX : CXT} {k : Nat} {f C : Addr} {fd : FuncData} {ps : List Str} {sp : Sp} {dvs : List V} {ds : List Value} {E : XK} {pins : List (Addr × Obj)} {σ : L2.St} {H : Hp} {s : Shared} {Q : VK} {us : List Value} {vs : List V} (M : Mk X.K C f) (F : FnOk X.prog X.w X.K X.mg X.base CX k f fd ps sp) (hr : Room (k + 1) X.A) (hb : Binds X.K fd ps ds) (hd : Vals dvs ds)
    (hx : PassesAt CX X σ E) (I : L2.Inv X pins σ H s) (r : Vals vs us)
    (h : ∀ x dx, H x = none → H dx = none → dx ≠ x → sp (.ref x :: (vs ++ dvs)) (upd (upd H dx (.own x)) x (.ins C dx [])) (fun v H2 => v = .non ∧ Q (.ref x) H2) E) :
    wpAny (model X.prog X.w) X.A (call (.ref C) us) (EP X pins σ Q) X.xe s := by
  have hq := h (s.heap.objs.size + 1) s.heap.objs.size (I.hok.fresh (Nat.le_succ _)) (I.hok.fresh (Nat.le_refl _)) (Nat.ne_of_lt (Nat.lt_succ_self _))
  have I2 := Inv.made (C := C) I
  have r2 : Vals (V.ref (s.heap.objs.size + 1) :: (vs ++ dvs)) (Value.ref (s.heap.objs.size + 1) :: (us ++ ds)) := .cons rfl (r.append hd)
  have hl : (Value.ref (s.heap.objs.size + 1) :: us ++ ds).length = ps.length := by
    have e := r2.length
    rw [F.len _ _ _ _ hq] at e
    exact e.symm
  refine wpAny_call (make_map (f := f) I.kIn M.makes M.init (beq_iff_eq.mp M.fn) (codeAny_mono (F.run _ X.stack _ _ ⟨Value.ref (s.heap.objs.size + 1) :: us, []⟩ (Value.ref (s.heap.objs.size + 1) :: (us ++ ds)) _ _ E (hr.make C us [])
    (I2.env0.make C us []) (hb _ (Value.ref (s.heap.objs.size + 1) :: us) I2.kIn hl) r2 hq) fun r s' hq' => ?_))
  cases r with
  | error e => exact hx pins _ _ e s' I2 hq'
  | ok fl =>
    cases fl with
    | ret u =>
      obtain ⟨v, H', I3, rv, ev, q3⟩ := I2.after hq'
      subst ev
      exact ⟨rv, ⟨V.ref (s.heap.objs.size + 1), H', I3, rfl, q3⟩⟩
    | next => exact False.elim hq'
    | brk => exact False.elim hq'
    | cont => exact False.elim hq'
/-- C(..): a new instance -/
theorem de_new (x : Xok G n X Wx) {c : Str} {k : Nat} {f : Fn} {e : Expr} {es : List Expr} {p pos : Pos} {fa : Sl → Mu → R (List D)} (hc : (c, k) ∈ G.news) (hdb : (c == ("__debug__" : Str)) = false) (hg : Gl X c) (n1 : noStar e = true) (n2 : es.all noStar = true) (ha : PA X (e :: es) (tL X Wx fa)) :
    PE X (.Call (.Name c p) (e :: es) [] pos) (tS X Wx fun s m => (fa s m).bind fun ds m1 => (callN G n k (.ref m1.length :: ds) (m1 ++ [.ins c [] []])).bind fun r m2 => newR m1 r m2) := by
  refine ⟨fun pins s σ H Q I h => ?_⟩
  obtain ⟨f, hf, M, hm⟩ := x.fx.news _ hc
  obtain ⟨fd, F, B⟩ := (x.fns k f hf).ok
  have fin : tL X Wx fa σ H fun vs H1 => ∃ (W1 : Wd) (m1 : Mu) (ds : List D), St0 X.K X.mg W1 m1 H1 ∧ Reps X.K X.mg W1 ds vs ∧ OutG X.K X.mg (SvAt X.K X.mg) Wx W1 H1 σ ((callN G n k (.ref m1.length :: ds) (m1 ++ [.ins c [] []])).bind fun r m2 => newR m1 r m2) Q := by
    obtain ⟨W, sl, m, hs, o⟩ := h
    exact run rb_sv hs o fun ds m1 W1 vs H1 _ h1 p1 r o1 => ⟨W1, m1, ds, h1.toSt0, r, o1⟩
  refine wpAny_Call_Name_kw (ld_glob I hg hm ?_ hdb)
  refine PySem.W.callWith_K (h₀ := X.base) I.ok.mod.kin M.kp (thn (ha.run pos pins s σ H _ I fin) fun us s1 ⟨vs, H1, I1, r, W1, m1, ds, st, rd, o1⟩ => ⟨I1.kIn, ?_⟩) (star_cons n1) (star_any n2)
  have hnb : callN G n k (.ref m1.length :: ds) (m1 ++ [.ins c [] []]) ≠ .bad := fun e => by
    rw [e] at o1
    exact o1
  have hl := callN_ok hf hnb
  obtain ⟨j1, j2⟩ := fill_len (j := 0) hl
  obtain ⟨dvs, dz, vd, bd, rdd⟩ := B _ j1 j2
  have hq : ∀ (p dx : Addr), H1 p = none → H1 dx = none → dx ≠ p → spF G X.K X.mg n k (.ref p :: (vs ++ dvs)) (upd (upd H1 dx (.own p)) p (.ins (He.ga X.K c) dx [])) (fun v H2 => v = .non ∧ Q (.ref p) H2) (WE Wx σ) := fun p dx hp hd ne => by
    obtain ⟨x1, p1, _⟩ := st.made hd (.own p)
    have hp1 : upd H1 dx (.own p) p = none := by rw [upd_ne (Ne.symm ne)]; exact hp
    obtain ⟨x2, p2⟩ := x1.share hp1 (o := .ins (He.ga X.K c) dx []) (c := .ins c [] []) ⟨dx, [], by rw [upd_same]; rfl, rfl, rfl⟩
    have p12 := p1.trans x1 p2
    have rp : Rep X.K X.mg ⟨W1.Hf, W1.th ++ [p]⟩ (.ref m1.length) (.ref p) := ⟨p, rfl, by rw [← st.len]; simp⟩
    refine sp_of (σ := σ) (vs := .ref p :: vs) hf hl x2 (Reps.cons rp (Reps.mono p12.le _ _ rd)) (rdd _) ?_
    cases er : callN G n k (.ref m1.length :: ds) (m1 ++ [.ins c [] []]) with
    | bad => exact absurd er hnb
    | ex z m2 =>
      rw [er] at o1
      exact fun W' d H' x3 p3 ea => o1 W' d H' x3 (p12.trans x2 p3) ea
    | ok sv m2 =>
      rw [er] at o1
      intro W3 v H3 x3 p3 av
      have o1 : OutG X.K X.mg (SvAt X.K X.mg) Wx W1 H1 σ (newR m1 sv m2) Q := o1
      clear er hl
      unfold newR at o1
      split at o1
      · cases av
        split at o1
        · rename_i c' ec
          split at o1
          · rename_i hcc
            obtain ⟨em, hlo⟩ := hcc
            refine ⟨rfl, ?_⟩
            rw [em] at x3
            clear em
            obtain ⟨more, et, hmore⟩ := p3.th
            have et : W3.th = (W1.th ++ [p]) ++ more := et
            have hmo : more = [] := by
              have hl3 := x3.len
              rw [et] at hl3
              simp [st.len] at hl3
              exact hl3
            subst hmo
            rw [List.append_nil] at et
            have x3' : St0 X.K X.mg ⟨W3.Hf, W1.th ++ [p]⟩ (m1 ++ [c']) H3 := by rw [← et]; exact x3
            obtain ⟨x4, ow⟩ := st.pop x3' hlo rfl
            have pt : p ∉ W1.th := fun z => by
              obtain ⟨o', e'⟩ := st.live z
              rw [hp] at e'
              cases e'
            have p4 : Step W1 H1 ⟨W3.Hf, W1.th⟩ H3 := by
              refine ⟨p12.sub.trans p3.sub, ⟨[], by simp, by simp⟩, fun b u e nb => ?_, fun b u e hz nb t => ?_⟩
              · have hbp : b ≠ p := ne_of_none e hp
                exact p3.keep b u (p12.keep b u e nb) (by simp [nb, hbp])
              · have hbp : b ≠ p := ne_of_none e hp
                exact p3.nofz b u (p12.keep b u e nb) (p12.nofz b u e hz nb t) (by simp [nb, hbp]) t
            exact o1.fin2 x4 p4 ⟨p, rfl, ow, hp⟩
          · exact o1.elim
        · exact o1.elim
      · exact o1.elim
  exact run_makeA M F (x.room.mono (by omega)) bd vd (passAt x.tk σ) I1 r hq
end
end Dp
end

section
set_option Elab.async false
set_option linter.all false
set_option maxRecDepth 100000
set_option maxHeartbeats 1000000
/-! The deep layer, part 14: len and in of instances, pop of a shared list, get of a dict. -/
namespace Dp
open PySem PySem.Spec PyProof.Rows L2
section
variable {X : Cx} {Wx : WX} {G : Prog} {n : Nat}
theorem false_at (x : Xok G n X Wx) (σ : L2.St) : PassesAt (L2.CX X.prog X.w) X σ (fun _ _ _ => False) := fun pins H s e s' I c => passes_call x.tk (fun _ _ _ _ h => h.elim) pins σ H s e s' I c
theorem outN0 {K : PySem.W.Frag} {mg : Str → Option Value} {α β γ δ : Type} {A : Wd → Hp → Hp → α → β → Prop} {A2 : Wd → Hp → Hp → γ → δ → Prop} {Wx : WX} {W : Wd} {H : Hp} {σ σ' : L2.St} {r : R γ} {f : γ → Mu → R α} {Q : β → Hp → Prop} {Q1 : δ → Hp → Prop} (h : OutG K mg A Wx W H σ (r.bindN f) Q)
    (k : ∀ (a : γ) (m : Mu) (W' : Wd) (b : δ) (H' : Hp), r = .ok a m → OutG K mg A Wx W H σ (f a m) Q → St0 K mg W' m H' → Step W H W' H' → A2 W' H H' a b → Q1 b H') : OutG K mg A2 (WE0 fun _ _ _ => False) W H σ' r Q1 := by
  cases r with
  | ok a m => exact fun W' b H' x p av => k a m W' b H' rfl h x p av
  | ex x m => exact h.elim
  | bad => exact h.elim
/-- the k-th def run within the context A', no exception leaving -/
theorem run_fn0 (x : Xok G n X Wx) {A' : Around} (hr : Room (2 * n) A') {pins : List (Addr × Obj)} {σ : L2.St} (e0 : ∀ H s, Env0 X.prog X.w X.K X.mg X.base X.A X.stack s H → Env0 X.prog X.w X.K X.mg X.base A' X.stack s H) {W : Wd} {m : Mu} {H : Hp} {s : Shared} {Q : VK} {k : Nat} {f : Fn} {ds : List D} {vs : List V} {us : List Value} (hf : G.fns[k]? = some f) (I : L2.Inv X pins σ H s) (r : Vals vs us) (st : St0 X.K X.mg W m H) (rd : Reps X.K X.mg W ds vs)
    (o : OutG X.K X.mg (SvAt X.K X.mg) (WE0 fun _ _ _ => False) W H [] (callN G n k ds m) Q) : wpAny (model X.prog X.w) A' (call (.ref (He.fAd X.K f.at_)) us) (EP X pins σ Q) X.xe s := by
  have hl := callN_ok hf (out_nb o)
  obtain ⟨fd, F, B⟩ := (x.fns k f hf).ok
  obtain ⟨h1, h2⟩ := fill_len (j := 0) hl
  obtain ⟨dvs, dz, vd, bd, rdd⟩ := B ds.length h1 h2
  exact run_at F hr (e0 _ _ I.env0) bd vd (false_at x σ) I r ⟨f, W, fill f ds, m, hf, hl, st, rd.append (rdd W), by rw [callN_fill hf hl]; exact o⟩
def rLenO (G : Prog) (n : Nat) (X : Cx) : List V → Hp → VK → Prop := fun xs H Q => ∃ (a : Addr) (C dx : Addr) (fs : List (Str × V)) (k : Nat) (f : Fn) (W : Wd) (m : Mu) (d : D), xs = [.ref a] ∧ H a = some (.ins C dx fs) ∧ G.fns[k]? = some f ∧ Meth X.K C "__len__" (He.fAd X.K f.at_) ∧ St0 X.K X.mg W m H ∧ Rep X.K X.mg W d (.ref a) ∧
  OutG X.K X.mg (SvAt X.K X.mg) (WE0 fun _ _ _ => False) W H [] (callN G n k [d] m) (fun v H' => ∃ i : Int, v = .int i ∧ 0 ≤ i ∧ i < 2 ^ 63 ∧ Q (.int i) H')
theorem call_lenO (x : Xok G n X Wx) : CallR X (.builtin "len") (rLenO G n X) := by
  intro pins s σ H xs us Q I r h
  obtain ⟨a, C, dx, fs, k, f, W, m, d, rfl, ha, hf, me, st, rd, o⟩ := h
  obtain ⟨u, rfl, rx⟩ := vals1 r
  obtain rfl : u = Value.ref a := rx
  obtain ⟨mA, O, _⟩ := ins_get I.hok ha
  obtain ⟨od, J, _⟩ := O.look
  obtain ⟨mf, Fr0⟩ := I.fr
  refine PySem.W.len_K Fr0 I.ok.mod.kin J me.at_ me.fn ?_
  refine wpAny_mono (run_fn0 x (A' := X.A.in1) x.room.in1 (fun H s e => e.in1) (vs := [V.ref a]) (us := [Value.ref a]) hf I (.cons rfl .nil) st (Reps.one rd) o) (fun v s' hv => ?_) fun _ _ z => z
  obtain ⟨z, H', I', rv, i, rfl, h0, h1, q⟩ := hv
  obtain ⟨t, rfl⟩ := rv
  exact ⟨⟨h0, h1⟩, ⟨.int i, H', I'.tok _, ⟨_, rfl⟩, q⟩⟩
theorem de_leno (x : Xok G n X Wx) {e : Expr} {ks : List (Str × Nat)} {p pos : Pos} {fa : Sl → Mu → R SV} (hk : ∀ c k, ks.lookup c = some k → ((c, Str.ofString "__len__"), k) ∈ G.mets) (hg : Gl X "len") (ha : PE X e (tS X Wx fa)) (hs : noStar e = true) :
    PE X (.Call (.Name "len" p) [e] [] pos) (tS X Wx fun s m => (fa s m).bind fun x m1 => (match seeD m1 x.fz with
    | .ins c _ _ => (match ks.lookup c with
      | some k => (callN G n k [x.fz] m1).bindN fun r m2 => (match r.fz with
        | .int n => guardR (r63 n) (.ok (.val (.int n)) m2)
        | _ => .bad)
      | none => .bad)
    | _ => .bad)) := by
  refine pe_imp (pe_callB (call_lenO x) hg (x.fx.blt "len" (by decide)) (by kernel_rfl) (pa_cons ha pa_nil (star_cons hs)) (by decide) (by decide) (star_cons hs) (star_any rfl)) fun σ H Q ⟨W, s, m, hs, o⟩ => ?_
  refine runz rb_sv hs o fun xv m1 W1 v H1 h1 p1 av o1 => ?_
  split at o1
  · rename_i c ns ds e1
    split at o1
    · rename_i k e2
      have hv := see_rep (m := m1) h1.toSt0 av
      rw [e1] at hv
      obtain ⟨a, dx, vs, rfl, hh, hl, rr⟩ := hv.ins h1.sub
      obtain ⟨f, hf, cl, me⟩ := x.fx.mets _ (hk c k e2)
      refine ⟨a, _, dx, _, k, f, W1, m1, xv.fz, rfl, hh, hf, me, h1.toSt0, av, outN0 o1 fun r m2 W2 b H2 er o2 x2 p2 bv => ?_⟩
      split at o2
      · rename_i i ei
        have hb : b = .int i := by
          cases r with
          | val d =>
            have : d = .int i := ei
            subst this
            exact bv
          | own c => cases c <;> cases ei
        generalize hgd : r63 i = g at o2
        cases g with
        | false => exact o2.elim
        | true =>
          have hgd := r63_le hgd
          have o3 : OutG X.K X.mg (SvAt X.K X.mg) Wx W1 H1 σ (.ok (.val (.int i)) m2) Q := o2
          exact ⟨i, hb, hgd.1, hgd.2, o3.fin2 x2 p2 rfl⟩
      · exact o2.elim
    · exact o1.elim
  · exact o1.elim
def rInO (G : Prog) (n : Nat) (X : Cx) (neg : Bool) : R2 := fun y v H Q => ∃ (a : Addr) (C dx : Addr) (fs : List (Str × V)) (k : Nat) (f : Fn) (W : Wd) (m : Mu) (d e : D), v = .ref a ∧ H a = some (.ins C dx fs) ∧ G.fns[k]? = some f ∧ Meth X.K C "__contains__" (He.fAd X.K f.at_) ∧ St0 X.K X.mg W m H ∧ Rep X.K X.mg W d (.ref a) ∧ Rep X.K X.mg W e y ∧
  OutG X.K X.mg (SvAt X.K X.mg) (WE0 fun _ _ _ => False) W H [] (callN G n k [d, e] m) (fun v H' => ∃ b : Bool, v = .bl b ∧ Q (.bl (if neg = true then !b else b)) H')
theorem or_inO (x : Xok G n X Wx) : OpR X (compareOp .In) (rInO G n X false) := by
  intro pins s σ H y v uy uv Q I ry rv h
  obtain ⟨a, C, dx, fs, k, f, W, m, d, e, rfl, ha, hf, me, st, rd, re, o⟩ := h
  obtain rfl : uv = Value.ref a := rv
  obtain ⟨mA, O, _⟩ := ins_get I.hok ha
  obtain ⟨od, J, _⟩ := O.look
  obtain ⟨mf, Fr0⟩ := I.fr
  refine PySem.W.in_K Fr0 I.ok.mod.kin J me.at_ me.fn ?_
  refine wpAny_mono (run_fn0 x (A' := X.A) (x.room.mono (by omega)) (fun H s e => e) (vs := [V.ref a, y]) (us := [Value.ref a, uy]) hf I (.cons rfl (.cons ry .nil)) st (Reps.cons rd (Reps.one re)) o) (fun v s' hv => ?_) fun _ _ z => z
  obtain ⟨z, H', I', rv, i, rfl, q⟩ := hv
  cases rv
  exact wpAny_truthy_bool ⟨.bl i, H', I', rfl, q⟩
theorem or_notInO (x : Xok G n X Wx) : OpR X (compareOp .NotIn) (rInO G n X true) := by
  intro pins s σ H y v uy uv Q I ry rv h
  obtain ⟨a, C, dx, fs, k, f, W, m, d, e, rfl, ha, hf, me, st, rd, re, o⟩ := h
  obtain rfl : uv = Value.ref a := rv
  obtain ⟨mA, O, _⟩ := ins_get I.hok ha
  obtain ⟨od, J, _⟩ := O.look
  obtain ⟨mf, Fr0⟩ := I.fr
  refine PySem.W.notIn_K Fr0 I.ok.mod.kin J me.at_ me.fn ?_
  refine wpAny_mono (run_fn0 x (A' := X.A) (x.room.mono (by omega)) (fun H s e => e) (vs := [V.ref a, y]) (us := [Value.ref a, uy]) hf I (.cons rfl (.cons ry .nil)) st (Reps.cons rd (Reps.one re)) o) (fun v s' hv => ?_) fun _ _ z => z
  obtain ⟨z, H', I', rv, i, rfl, q⟩ := hv
  cases rv
  exact wpAny_truthy_bool ⟨.bl (!i), H', I', rfl, q⟩
def inmOp (neg : Bool) : CmpOp := if neg = true then .NotIn else .In
theorem de_inm (x : Xok G n X Wx) {neg : Bool} {a o : Expr} {ks : List (Str × Nat)} {pos : Pos} {fa fo : Sl → Mu → R SV} (hk : ∀ c k, ks.lookup c = some k → ((c, Str.ofString "__contains__"), k) ∈ G.mets) (ha : PE X a (tS X Wx fa)) (ho : PE X o (tS X Wx fo)) (hm : behindInMarks (inmOp neg) o = false) :
    PE X (.Compare a [inmOp neg] [o] pos) (tS X Wx fun s m => (fa s m).bind fun x m1 => (fo s m1).bind fun y m2 => (match seeD m2 y.fz with
    | .ins c _ _ => (match ks.lookup c with
      | some k => (callN G n k [y.fz, x.fz] m2).bindN fun r m3 => (match r.fz with
        | .bl b => .ok (.val (.bl (if neg = true then !b else b))) m3
        | _ => .bad)
      | none => .bad)
    | _ => .bad)) := by
  have hop : OpR X (compareOp (inmOp neg)) (rInO G n X neg) := by
    cases neg with
    | true => exact or_notInO x
    | false => exact or_inO x
  refine pe_imp (pe_cmpR hop ha ho hm) fun σ H Q ⟨W, s, m, hs, out⟩ => ?_
  refine runz rb_sv hs out fun xv m1 W1 v H1 h1 p1 av o1 => ?_
  refine runz rb_sv h1 o1 fun yv m2 W2 u H2 h2 p2 bv o2 => ?_
  split at o2
  · rename_i c ns ds e1
    split at o2
    · rename_i k e2
      have hv := see_rep (m := m2) h2.toSt0 bv
      rw [e1] at hv
      obtain ⟨a, dx, vs, rfl, hh, hl, rr⟩ := hv.ins h2.sub
      obtain ⟨f, hf, cl, me⟩ := x.fx.mets _ (hk c k e2)
      refine ⟨a, _, dx, _, k, f, W2, m2, yv.fz, xv.fz, rfl, hh, hf, me, h2.toSt0, bv, Rep.mono p2.le _ _ av, outN0 o2 fun r m3 W3 b H3 er o3 x3 p3 cv => ?_⟩
      split at o3
      · rename_i i ei
        have hb : b = .bl i := by
          cases r with
          | val d =>
            have : d = .bl i := ei
            subst this
            exact cv
          | own c => cases c <;> cases ei
        exact ⟨i, hb, o3.fin2 x3 p3 rfl⟩
      · exact o3.elim
    · exact o2.elim
  · exact o2.elim
theorem dt_inm (x : Xok G n X Wx) {neg : Bool} {a o : Expr} {ks : List (Str × Nat)} {pos : Pos} {fa fo : Sl → Mu → R SV} (hk : ∀ c k, ks.lookup c = some k → ((c, Str.ofString "__contains__"), k) ∈ G.mets) (ha : PE X a (tS X Wx fa)) (ho : PE X o (tS X Wx fo)) (hm : behindInMarks (inmOp neg) o = false) :
    PT X (.Compare a [inmOp neg] [o] pos) (tT X Wx fun s m => (fa s m).bind fun x m1 => (fo s m1).bind fun y m2 => (match seeD m2 y.fz with
    | .ins c _ _ => (match ks.lookup c with
      | some k => (callN G n k [y.fz, x.fz] m2).bindN fun r m3 => (match r.fz with
        | .bl b => .ok (if neg = true then !b else b) m3
        | _ => .bad)
      | none => .bad)
    | _ => .bad)) := by
  have hop : OpR X (compareOp (inmOp neg)) (rInO G n X neg) := by
    cases neg with
    | true => exact or_notInO x
    | false => exact or_inO x
  refine pt_imp (pt_cmpR hop ha ho hm) fun σ H Q ⟨W, s, m, hs, out⟩ => ?_
  refine runz rb_bl hs out fun xv m1 W1 v H1 h1 p1 av o1 => ?_
  refine runz rb_bl h1 o1 fun yv m2 W2 u H2 h2 p2 bv o2 => ?_
  split at o2
  · rename_i c ns ds e1
    split at o2
    · rename_i k e2
      have hv := see_rep (m := m2) h2.toSt0 bv
      rw [e1] at hv
      obtain ⟨a, dx, vs, rfl, hh, hl, rr⟩ := hv.ins h2.sub
      obtain ⟨f, hf, cl, me⟩ := x.fx.mets _ (hk c k e2)
      refine ⟨a, _, dx, _, k, f, W2, m2, yv.fz, xv.fz, rfl, hh, hf, me, h2.toSt0, bv, Rep.mono p2.le _ _ av, outN0 o2 fun r m3 W3 b H3 er o3 x3 p3 cv => ?_⟩
      split at o3
      · rename_i i ei
        have hb : b = .bl i := by
          cases r with
          | val d =>
            have : d = .bl i := ei
            subst this
            exact cv
          | own c => cases c <;> cases ei
        exact ⟨i, hb, _, rfl, o3.fin2 x3 p3 rfl⟩
      · exact o3.elim
    · exact o2.elim
  · exact o2.elim
theorem reps_last {K : PySem.W.Frag} {mg : Str → Option Value} {W : Wd} {ds : List D} {vs : List V} {d : D} (r : Reps K mg W ds vs) (e : ds.getLast? = some d) : ∃ v, vs[vs.length - 1]? = some v ∧ Rep K mg W d v := by
  rw [List.getLast?_eq_getElem?] at e
  rw [← r.length]
  exact r.get e
/-- pop of a shared list -/
theorem de_mpop {o : Expr} {apos cpos : Pos} {fo : Sl → Mu → R SV} (ho : PE X o (tS X Wx fo)) (h1 : noSup o = true) (hl : (apos.endLine == cpos.line) = true) :
    PE X (.Call (.Attribute o "pop" apos) [] [] cpos) (tS X Wx fun s m => (fo s m).bind fun x m1 => (match x.fz with
    | .ref i => (match m1[i]? with
      | some (.lst ds) => (match ds.getLast? with
        | some d => .ok (.val d) (m1.set i (.lst ds.dropLast))
        | none => .bad)
      | _ => .bad)
    | _ => .bad)) := by
  refine pe_imp (pe_bm0 PySem.F.plainAttrs_list PySem.F.slot_list_pop (by first | rfl | kernel_rfl | (show builtinType _ = _; rw [builtinType_eq_fast]; kernel_rfl)) (mt_pop (X := X)) ho (base_eq h1) hl) fun σ H Q ⟨W, s, m, hs, out⟩ => ?_
  refine runz rb_sv hs out fun xv m1 W1 v H1 h1 p1 av o1 => ?_
  split at o1
  · rename_i i e1
    rw [e1] at av
    obtain ⟨a, rfl, ha⟩ := av
    split at o1
    · rename_i ds e2
      split at o1
      · rename_i d e3
        obtain ⟨vs, hv, rv⟩ := h1.cell i a _ ha e2
        obtain ⟨w, e4, rw'⟩ := reps_last rv e3
        refine ⟨.inl ⟨rfl, vs, SqL.of hv⟩, a, vs, w, rfl, rfl, hv, e4, ?_⟩
        obtain ⟨x2, p2⟩ := h1.toSt0.setCell (c := .lst ds.dropLast) (o := .lst vs.dropLast) ha ⟨vs.dropLast, upd_same, rv.dropLast⟩
        exact o1.fin2 x2 p2 rw'
      · exact o1.elim
    · exact o1.elim
  · exact o1.elim
theorem Vw.step {K : PySem.W.Frag} {mg : Str → Option Value} {W W1 : Wd} {H H1 : Hp} {d : D} {v : V} {m : Mu} (h : VwAt K mg W H H d v) (p : Step W H W1 H1) : VwAt K mg W1 H1 H1 d v := VwAt.step h p
theorem keyT_v {K : PySem.W.Frag} {mg : Str → Option Value} {W : Wd} {d : D} {v : V} {k : List Key} (r : Rep K mg W d v) (e : keyT d = some k) : ∃ b, v = .ref b ∧ W.Hf b = some (.tup (k.map kV)) := by
  cases d <;> try cases e
  rename_i ds
  obtain ⟨b, vs, rfl, hb, rr⟩ := r
  exact ⟨b, rfl, by rw [hb, keysD_v rr e]⟩
theorem dct_of {K : PySem.W.Frag} {mg : Str → Option Value} {W : Wd} {H : Hp} {d : D} {v : V} {m : Mu} (x : St0 K mg W m H) (h : isDct d = true) (hv : Vw K mg W H d v) : ∃ a, v = .ref a ∧ ((∃ kvs, H a = some (.dK kvs)) ∨ ∃ kvs, H a = some (.dT kvs)) := by
  cases d <;> try cases h
  · obtain ⟨a, vs0, rfl, hh0, _, _⟩ := hv.dk x.sub
    exact ⟨a, rfl, .inl ⟨_, hh0⟩⟩
  · obtain ⟨a, vs0, rfl, hh0, _, _⟩ := hv.dt x.sub
    exact ⟨a, rfl, .inr ⟨_, hh0⟩⟩
theorem de_dget (hu : X.A.units + 200 < cLine) {o e f : Expr} {apos cpos : Pos} {fo : Sl → Mu → R D} {fe ff : Sl → Mu → R SV} (ho : PE X o (tP X Wx fo)) (he : PE X e (tS X Wx fe)) (hf : PE X f (tS X Wx ff)) (h1 : noSup o = true) (n1 : noStar e = true) (n2 : noStar f = true) (hl : (apos.endLine == cpos.line) = true) :
    PE X (.Call (.Attribute o "get" apos) [e, f] [] cpos) (tS X Wx fun s m => (fo s m).bind fun x m1 => if isDct (seeD m1 x) = true then (fe s m1).bind fun y m2 => (ff s m2).bind fun z m3 => (match dgetV (seeD m3 x) y.fz z.fz with
      | some d => .ok (.val d) m3
      | none => .bad) else .bad) := by
  have M : M2 X o "get" apos e f cpos := ⟨base_eq h1, by rw [star_cons n1, star_cons n2]; rfl, hl, by rw [star_cons n1, star_cons n2]; rfl⟩
  refine pe_imp (pe_dget2 (by omega) ho he hf M) fun σ H Q ⟨W, s, m, hs, out⟩ => ?_
  refine run rb_sv hs out fun xv m1 W1 v H1 _ h1 p1 av o1 => ?_
  have hv := see (m := m1) h1.toSt0 av
  split at o1
  · rename_i e0
    obtain ⟨a, rfl, hk⟩ := dct_of h1.toSt0 e0 hv
    refine ⟨a, rfl, hk.imp (fun ⟨kvs, z⟩ => ⟨kvs, .inl z⟩) (fun ⟨kvs, z⟩ => ⟨kvs, .inl z⟩), ?_⟩
    refine runz rb_sv h1 o1 fun yv m2 W2 u H2 h2 p2 bv o2 => ?_
    refine runz rb_sv h2 o2 fun zv m3 W3 w H3 h3 p3 cv o3 => ?_
    have hv3 := see (m := m3) (H0 := H1) h3.toSt0 ((av.step (H1 := H1) p2).step (H1 := H1) p3)
    have bv3 := Rep.mono p3.le _ _ bv
    generalize seeD m3 xv = sd at o3 hv3
    cases sd <;> try exact o3.elim
    · rename_i ks ds
      dsimp only [dgetV] at o3
      obtain ⟨a', vs, ea, hh, hn, rr⟩ := hv3.dk h3.sub
      cases ea
      cases e2 : keyD yv.fz with
      | none => rw [e2] at o3; exact o3.elim
      | some key =>
        rw [e2] at o3
        have ek := keyD_w bv3 e2
        subst ek
        have g := DGet.k (k := key) hh
        obtain ⟨q1, q2⟩ := reps_val (k := key) hn rr
        refine ⟨_, g, o3.fin h3.toSt0 ?_⟩
        show Rep X.K X.mg W3 ((valD ks ds key).getD zv.fz) ((valV (ks.zip vs) key).getD w)
        cases ed : valD ks ds key with
        | some d =>
          obtain ⟨v', e3, r3⟩ := q1 d ed
          have e4 : valV (ks.zip vs) key = some v' := e3
          rw [e4]
          exact r3
        | none =>
          have e4 : valV (ks.zip vs) key = none := q2 ed
          rw [e4]
          exact cv
    · rename_i ks ds
      dsimp only [dgetV] at o3
      obtain ⟨a', vs, ea, hh, hn, rr⟩ := hv3.dt h3.sub
      cases ea
      cases e2 : keyT yv.fz with
      | none => rw [e2] at o3; exact o3.elim
      | some key =>
        rw [e2] at o3
        obtain ⟨b, rfl, hb⟩ := keyT_v bv3 e2
        have g := DGet.t (k := key) hh (h3.toSt0.sub _ _ hb)
        obtain ⟨q1, q2⟩ := reps_val (k := key) hn rr
        refine ⟨_, g, o3.fin h3.toSt0 ?_⟩
        show Rep X.K X.mg W3 ((valD ks ds key).getD zv.fz) ((valV (ks.zip vs) key).getD w)
        cases ed : valD ks ds key with
        | some d =>
          obtain ⟨v', e3, r3⟩ := q1 d ed
          have e4 : valV (ks.zip vs) key = some v' := e3
          rw [e4]
          exact r3
        | none =>
          have e4 : valV (ks.zip vs) key = none := q2 ed
          rw [e4]
          exact cv
  · exact o1.elim
theorem de_dnewK {pos : Pos} : PE X (.Dict [] [] pos) (tS X Wx fun _ m => .ok (.own (.dk [] [])) m) :=
  pe_imp pe_dnewK fun σ H Q ⟨W, s, m, hs, o⟩ => own_new (c := .dk [] []) hs.toSt0 (fun p => ⟨[], upd_same, rfl, rfl⟩) o
theorem de_dnewT {pos : Pos} : PE X (.Dict [] [] pos) (tS X Wx fun _ m => .ok (.own (.dt [] [])) m) :=
  pe_imp pe_dnewT fun σ H Q ⟨W, s, m, hs, o⟩ => own_new (c := .dt [] []) hs.toSt0 (fun p => ⟨[], upd_same, rfl, rfl⟩) o
end
end Dp
end

section
set_option Elab.async false
set_option linter.all false
set_option maxRecDepth 100000
set_option maxHeartbeats 1000000
/-! The deep layer, part 15: statements. -/
namespace Dp
open PySem PySem.Spec PyProof.Rows L2
section
variable (K : PySem.W.Frag) (mg : Str → Option Value)
/-- within a body: W0, H0 the entry, Wl a world below -/
structure HoldF (W0 : Wd) (H0 : Hp) (Wl : Wd) (W : Wd) (s : Sl) (m : Mu) (σ : L2.St) (H : Hp) : Prop where
  h : Holds K mg W s m σ H
  st : Step W0 H0 W H
  of : ∀ (i : Nat) (c : Cell) (a : Addr), s[i]? = some (some (.own c)) → σ[i]? = some (some (.ref a)) → H0 a = none
  le : Le Wl W
def OutS (Wx : WX) (W0 : Wd) (H0 : Hp) (Wl : Wd) (r : SR) (D : Ends) : Prop := match r with
  | .nx s m => ∀ (W : Wd) (σ : L2.St) (H : Hp), HoldF K mg W0 H0 Wl W s m σ H → D.nx σ H
  | .bk s m => ∀ (W : Wd) (σ : L2.St) (H : Hp), HoldF K mg W0 H0 Wl W s m σ H → D.bk σ H
  | .ct s m => ∀ (W : Wd) (σ : L2.St) (H : Hp), HoldF K mg W0 H0 Wl W s m σ H → D.ct σ H
  | .rt v m => ∀ (W : Wd) (u : V) (H : Hp), St0 K mg W m H → Step W0 H0 W H → SvAt K mg W H0 H v u → D.rt u H
  | .ex x s m => ∀ (W : Wd) (σ : L2.St) (d : Option Addr) (H : Hp), HoldF K mg W0 H0 Wl W s m σ H → ExAt K mg W x d → Wx (.ref (He.ga K x.c)) d σ H
  | .bad => False
def tSt (Wx : WX) (W0 : Wd) (H0 : Hp) (f : Sl → Mu → SR) : TS := fun D σ H => ∃ (Wl W : Wd) (s : Sl) (m : Mu), HoldF K mg W0 H0 Wl W s m σ H ∧ OutS K mg Wx W0 H0 Wl (f s m) D
end
section
variable {K : PySem.W.Frag} {mg : Str → Option Value} {Wx : WX} {W0 Wl W W1 : Wd} {H0 H H1 : Hp} {s : Sl} {m m1 : Mu} {σ : L2.St} {D : Ends}
theorem HoldF.step (h : HoldF K mg W0 H0 Wl W s m σ H) (p : Step W H W1 H1) (x : St0 K mg W1 m1 H1) : HoldF K mg W0 H0 Wl W1 s m1 σ H1 :=
  ⟨h.h.step p x, h.st.trans h.h.toSt0 p, h.of, h.le.trans p.le⟩
/-- an expression within a statement -/
theorem st_run {α β : Type} {A : Wd → Hp → Hp → α → β → Prop} (f : Sl → Mu → R α) {k : α → Mu → SR} {Q1 : β → Hp → Prop} (h : HoldF K mg W0 H0 Wl W s m σ H) (o : OutS K mg Wx W0 H0 Wl ((f s m).st s k) D)
    (next : ∀ a m1 W1 b H1, f s m = .ok a m1 → HoldF K mg W0 H0 Wl W1 s m1 σ H1 → Step W H W1 H1 → A W1 H H1 a b → OutS K mg Wx W0 H0 Wl (k a m1) D → Q1 b H1) : tG K mg A Wx f σ H Q1 := by
  refine ⟨W, s, m, h.h, ?_⟩
  cases e : f s m with
  | ok a m1 =>
    rw [e] at o
    exact fun W1 b H1 x1 p av => next a m1 W1 b H1 e (h.step p x1) p av o
  | ex x m1 =>
    rw [e] at o
    exact fun W1 d H1 x1 p ea => o W1 σ d H1 (h.step p x1) ea
  | bad =>
    rw [e] at o
    exact o.elim
/-- .. whose value is data from now on -/
theorem st_runz (f : Sl → Mu → R SV) {k : SV → Mu → SR} {Q1 : V → Hp → Prop} (h : HoldF K mg W0 H0 Wl W s m σ H) (o : OutS K mg Wx W0 H0 Wl ((f s m).st s k) D)
    (next : ∀ a m1 W1 v H1, HoldF K mg W0 H0 Wl W1 s m1 σ H1 → Step W H W1 H1 → Rep K mg W1 a.fz v → OutS K mg Wx W0 H0 Wl (k a m1) D → Q1 v H1) : tG K mg (SvAt K mg) Wx f σ H Q1 :=
  st_run f h o fun a m1 W1 v H1 e h1 p av o1 => by
    obtain ⟨W2, h2, p2, r2, l2⟩ := freeze_new h.h p h1.h av
    exact next a m1 W2 v H1 ⟨h2, h.st.trans h.h.toSt0 p2, h.of, h.le.trans p2.le⟩ p2 r2 o1
theorem HoldF.put (h : HoldF K mg W0 H0 Wl W s m σ H) (i : Nat) {d : Dp.D} {v : V} (r : Rep K mg W d v) : HoldF K mg W0 H0 Wl W (s.set i (some (.val d))) m (σ.set i (some v)) H := by
  refine ⟨h.h.put i (.inl ⟨d, rfl, r⟩), h.st, fun j c a e1 e2 => ?_, h.le⟩
  by_cases hj : i = j
  · subst hj
    by_cases hl : i < s.length
    · rw [List.getElem?_set_self hl] at e1
      cases e1
    · rw [List.getElem?_eq_none (by simpa using hl)] at e1
      cases e1
  · rw [List.getElem?_set_ne hj] at e1 e2
    exact h.of j c a e1 e2
theorem HoldF.putO (h : HoldF K mg W0 H0 Wl W s m σ H) (i : Nat) {c : Cell} {a : Addr} (o : Own K mg W H a c) (hn : H0 a = none) (nn : ∀ (j : Nat) (c' : Cell), s[j]? = some (some (.own c')) → σ[j]? ≠ some (some (.ref a))) : HoldF K mg W0 H0 Wl W (s.set i (some (.own c))) m (σ.set i (some (.ref a))) H := by
  refine ⟨h.h.put i (.inr ⟨c, a, rfl, rfl, o, nn⟩), h.st, fun j c' b e1 e2 => ?_, h.le⟩
  by_cases hj : i = j
  · subst hj
    by_cases hl : i < s.length
    · rw [List.getElem?_set_self (by rw [← h.h.slen]; exact hl)] at e2
      cases e2
      exact hn
    · rw [List.getElem?_eq_none (by simpa using hl)] at e1
      cases e1
  · rw [List.getElem?_set_ne hj] at e1 e2
    exact h.of j c' b e1 e2
theorem HoldF.forget (h : HoldF K mg W0 H0 Wl W s m σ H) (vs : List Nat) : HoldF K mg W0 H0 Wl W (wipeS s vs) m σ H := by
  refine ⟨h.h.forget vs, h.st, fun j c a e1 e2 => h.of j c a ?_ e2, h.le⟩
  revert e1
  induction vs with
  | nil => exact id
  | cons v vs ih =>
    intro e1
    have e : ((wipeS s vs).set v none)[j]? = some (some (.own c)) := e1
    by_cases hj : v = j
    · subst hj
      by_cases hl : v < (wipeS s vs).length
      · rw [List.getElem?_set_self hl] at e
        cases e
      · rw [List.getElem?_eq_none (by simpa using hl)] at e
        cases e
    · rw [List.getElem?_set_ne hj] at e
      exact ih e
/-- a container of one's own is changed -/
theorem HoldF.write (h : HoldF K mg W0 H0 Wl W s m σ H) {i : Nat} {c c' : Cell} {a : Addr} {o : HO} (hs : s[i]? = some (some (.own c))) (hσ : σ[i]? = some (some (.ref a))) (hc : CellAt K mg W (upd H a o) a c') : HoldF K mg W0 H0 Wl W (s.set i (some (.own c'))) m σ (upd H a o) := by
  obtain ⟨a', e', ow⟩ := h.h.own i c hs
  rw [hσ] at e'
  cases e'
  have x2 := h.h.toSt0.write ow.nf ow.nt o
  have il : i < s.length := (List.getElem?_eq_some_iff.mp hs).1
  have es : ∀ (j : Nat) (x : SV), (s.set i (some (.own c')))[j]? = some (some x) → (j = i ∧ x = .own c') ∨ (j ≠ i ∧ s[j]? = some (some x)) := fun j x e => by
    by_cases hj : i = j
    · subst hj
      rw [List.getElem?_set_self il] at e
      cases e
      exact .inl ⟨rfl, rfl⟩
    · rw [List.getElem?_set_ne hj] at e
      exact .inr ⟨fun z => hj z.symm, e⟩
  refine ⟨⟨x2, by rw [List.length_set]; exact h.h.slen, fun j d e => ?_, fun j c1 e => ?_, fun j k c1 c2 b e1 e2 b1 b2 => ?_⟩, h.st.updFresh (h.of i c a hs hσ) o, fun j c1 b e1 e2 => ?_, h.le⟩
  · rcases es j _ e with ⟨_, z⟩ | ⟨_, e⟩
    · cases z
    · exact h.h.slot j d e
  · rcases es j _ e with ⟨rfl, z⟩ | ⟨hj, e⟩
    · cases z
      exact ⟨a, hσ, hc, ow.nf, ow.nt⟩
    · obtain ⟨b, eb, ob⟩ := h.h.own j c1 e
      have hb : b ≠ a := fun z => by
        subst z
        exact hj (h.h.dis j i c1 c b e hs eb hσ)
      exact ⟨b, eb, ob.at_.mono (Le.refl W) (fun u q => by rw [upd_ne hb]; exact q), ob.nf, ob.nt⟩
  · rcases es j _ e1 with ⟨rfl, z⟩ | ⟨hj, e1'⟩
    · rcases es k _ e2 with ⟨rfl, _⟩ | ⟨hk, e2'⟩
      · rfl
      · exact h.h.dis j k c c2 b hs e2' b1 b2
    · rcases es k _ e2 with ⟨rfl, _⟩ | ⟨hk, e2'⟩
      · exact h.h.dis j k c1 c b e1' hs b1 b2
      · exact h.h.dis j k c1 c2 b e1' e2' b1 b2
  · rcases es j _ e1 with ⟨rfl, z⟩ | ⟨_, e1⟩
    · exact h.of j c b hs e2
    · exact h.of j c1 b e1 e2
/-- .. is left as it is from now on -/
theorem HoldF.fix (h : HoldF K mg W0 H0 Wl W s m σ H) {i : Nat} {c : Cell} (hs : s[i]? = some (some (.own c))) : ∃ W2, HoldF K mg W0 H0 Wl W2 (s.set i (some (.val c.fz))) m σ H := by
  obtain ⟨a, hσ, ow⟩ := h.h.own i c hs
  obtain ⟨u, eu⟩ := ow.at_.ex
  obtain ⟨x2, l2⟩ := h.h.toSt0.freeze eu ow.nf ow.nt
  have il : i < s.length := (List.getElem?_eq_some_iff.mp hs).1
  have es : ∀ (j : Nat) (x : SV), (s.set i (some (.val c.fz)))[j]? = some (some x) → (j = i ∧ x = .val c.fz) ∨ (j ≠ i ∧ s[j]? = some (some x)) := fun j x e => by
    by_cases hj : i = j
    · subst hj
      rw [List.getElem?_set_self il] at e
      cases e
      exact .inl ⟨rfl, rfl⟩
    · rw [List.getElem?_set_ne hj] at e
      exact .inr ⟨fun z => hj z.symm, e⟩
  refine ⟨⟨upd W.Hf a u, W.th⟩, ⟨x2, by rw [List.length_set]; exact h.h.slen, fun j d e => ?_, fun j c1 e => ?_, fun j k c1 c2 b e1 e2 b1 b2 => ?_⟩, ⟨h.st.sub.trans l2.sub, h.st.th, h.st.keep, fun b o e hz nb t => ?_⟩, fun j c1 b e1 e2 => ?_, h.le.trans l2⟩
  · rcases es j _ e with ⟨rfl, z⟩ | ⟨_, e⟩
    · cases z
      exact ⟨_, hσ, ow.at_.repU eu ow.nf⟩
    · obtain ⟨v, q, r⟩ := h.h.slot j d e
      exact ⟨v, q, Rep.mono l2 d v r⟩
  · rcases es j _ e with ⟨_, z⟩ | ⟨hj, e⟩
    · cases z
    · obtain ⟨b, eb, ob⟩ := h.h.own j c1 e
      have hb : b ≠ a := fun z => by
        subst z
        exact hj (h.h.dis j i c1 c b e hs eb hσ)
      refine ⟨b, eb, ob.at_.mono l2 fun _ q => q, ?_, ob.nt⟩
      show upd W.Hf a u b = none
      rw [upd_ne hb]
      exact ob.nf
  · rcases es j _ e1 with ⟨_, z⟩ | ⟨_, e1⟩
    · cases z
    · rcases es k _ e2 with ⟨_, z⟩ | ⟨_, e2⟩
      · cases z
      · exact h.h.dis j k c1 c2 b e1 e2 b1 b2
  · have hb : b ≠ a := ne_of_none e (h.of i c a hs hσ)
    show upd W.Hf a u b = none
    rw [upd_ne hb]
    exact h.st.nofz b o e hz nb t
  · rcases es j _ e1 with ⟨_, z⟩ | ⟨_, e1⟩
    · cases z
    · exact h.of j c1 b e1 e2
/-- a container of one's own becomes a shared one -/
theorem HoldF.lend (h : HoldF K mg W0 H0 Wl W s m σ H) {i : Nat} {c : Cell} {a : Addr} (ow : Own K mg W H a c) (hn : H0 a = none) (nn : ∀ (j : Nat) (c' : Cell), s[j]? = some (some (.own c')) → σ[j]? ≠ some (some (.ref a))) :
    ∃ W2, HoldF K mg W0 H0 Wl W2 (s.set i (some (.val (.ref m.length)))) (m ++ [c]) (σ.set i (some (.ref a))) H := by
  have l : Le W ⟨W.Hf, W.th ++ [a]⟩ := ⟨Same.refl _, [a], rfl⟩
  have x2 : St0 K mg ⟨W.Hf, W.th ++ [a]⟩ (m ++ [c]) H := by
    refine ⟨h.h.sub, by simp [h.h.len], fun j b c' e1 e2 => ?_, fun b hb => ?_, ?_⟩
    · have e1 : (W.th ++ [a])[j]? = some b := e1
      by_cases hj : j < W.th.length
      · rw [List.getElem?_append_left hj] at e1
        rw [List.getElem?_append_left (by rw [← h.h.len]; exact hj)] at e2
        exact (h.h.cell j b c' e1 e2).mono l fun _ q => q
      · have ej : j = W.th.length := by
          have := (List.getElem?_eq_some_iff.mp e1).1
          simp at this
          omega
        subst ej
        rw [List.getElem?_append_right (Nat.le_refl _)] at e1
        rw [h.h.len, List.getElem?_append_right (Nat.le_refl _)] at e2
        simp at e1 e2
        subst e1 e2
        exact ow.at_.mono l fun _ q => q
    · rcases List.mem_append.mp (show b ∈ W.th ++ [a] from hb) with z | z
      · exact h.h.nf b z
      · rw [List.mem_singleton.mp z]; exact ow.nf
    · show (W.th ++ [a]).Nodup
      rw [List.nodup_append]
      exact ⟨h.h.nd, by simp, fun b hb b' hb' e => ow.nt (by rw [← List.mem_singleton.mp hb', ← e]; exact hb)⟩
  obtain ⟨more, et, hmore⟩ := h.st.th
  have st2 : Step W0 H0 ⟨W.Hf, W.th ++ [a]⟩ H := by
    refine ⟨h.st.sub, ⟨more ++ [a], by show W.th ++ [a] = _; rw [et, List.append_assoc], fun b hb => ?_⟩, h.st.keep, h.st.nofz⟩
    rcases List.mem_append.mp hb with z | z
    · exact hmore b z
    · rw [List.mem_singleton.mp z]; exact hn
  have h2 : HoldF K mg W0 H0 Wl ⟨W.Hf, W.th ++ [a]⟩ s (m ++ [c]) σ H := by
    refine ⟨⟨x2, h.h.slen, fun j d e => ?_, fun j c1 e => ?_, h.h.dis⟩, st2, h.of, h.le.trans l⟩
    · obtain ⟨v, q, r⟩ := h.h.slot j d e
      exact ⟨v, q, Rep.mono l d v r⟩
    · obtain ⟨b, eb, ob⟩ := h.h.own j c1 e
      refine ⟨b, eb, ob.at_.mono l fun _ q => q, ob.nf, fun hb => ?_⟩
      rcases List.mem_append.mp (show b ∈ W.th ++ [a] from hb) with z | z
      · exact ob.nt z
      · rw [List.mem_singleton.mp z] at eb
        exact nn j c1 e eb
  exact ⟨_, h2.put i ⟨a, rfl, by show (W.th ++ [a])[m.length]? = some a; rw [← h.h.len]; simp⟩⟩
end
section
variable {X : Cx} {Wx : WX} {W0 : Wd} {H0 : Hp}
abbrev tD (X : Cx) (Wx : WX) (W0 : Wd) (H0 : Hp) (f : Sl → Mu → SR) : TS := tSt X.K X.mg Wx W0 H0 f
theorem pss_imp {e : List Stmt} {t t' : TS} (h : PSs X e t) (i : ∀ D σ H, t' D σ H → t D σ H) : PSs X e t' := ⟨fun pins s σ H Q I hw => h.run pins s σ H Q I (i _ _ _ hw)⟩
theorem ds_nil : PSs X [] (tD X Wx W0 H0 fun s m => .nx s m) := pss_imp pss_nil fun D σ H ⟨Wl, W, s, m, h, o⟩ => o W σ H h
theorem ds_cons {st : Stmt} {rest : List Stmt} {f g : Sl → Mu → SR} (h1 : PS X st (tD X Wx W0 H0 f)) (h2 : PSs X rest (tD X Wx W0 H0 g)) : PSs X (st :: rest) (tD X Wx W0 H0 fun s m => (f s m).then_ fun s1 m1 => g s1 m1) := by
  refine pss_imp (pss_cons h1 h2) fun D σ H ⟨Wl, W, s, m, h, o⟩ => ⟨Wl, W, s, m, h, ?_⟩
  dsimp only at o
  revert o
  cases f s m with
  | nx s' m' => exact fun o W' σ' H' h' => ⟨Wl, W', s', m', h', o⟩
  | rt v m' => exact id
  | bk s' m' => exact id
  | ct s' m' => exact id
  | ex x s' m' => exact id
  | bad => exact id
/-- what is no statement of the text -/
theorem ds_ghost {rest : List Stmt} {f g : Sl → Mu → SR} (h2 : PSs X rest (tD X Wx W0 H0 g)) (k : ∀ (Wl W : Wd) (s : Sl) (m : Mu) (σ : L2.St) (H : Hp), HoldF X.K X.mg W0 H0 Wl W s m σ H → f s m = .bad ∨ ∃ s1 m1, f s m = .nx s1 m1 ∧ ∃ W1, HoldF X.K X.mg W0 H0 Wl W1 s1 m1 σ H) : PSs X rest (tD X Wx W0 H0 fun s m => (f s m).then_ fun s1 m1 => g s1 m1) := by
  refine pss_imp h2 fun D σ H ⟨Wl, W, s, m, h, o⟩ => ?_
  dsimp only at o
  rcases k Wl W s m σ H h with e | ⟨s1, m1, e, W1, h1⟩
  · rw [e] at o
    exact o.elim
  · rw [e] at o
    exact ⟨Wl, W1, s1, m1, h1, o⟩
theorem ds_gfz {rest : List Stmt} {i : Nat} {g : Sl → Mu → SR} (h2 : PSs X rest (tD X Wx W0 H0 g)) : PSs X rest (tD X Wx W0 H0 fun s m => SR.then_ (match s[i]? with | some (some (.own c)) => .nx (s.set i (some (.val c.fz))) m | _ => .bad) fun s1 m1 => g s1 m1) := by
  refine ds_ghost (f := fun s m => match s[i]? with | some (some (.own c)) => .nx (s.set i (some (.val c.fz))) m | _ => .bad) h2 fun Wl W s m σ H h => ?_
  skip
  split
  · rename_i c e
    obtain ⟨W2, h2⟩ := h.fix e
    exact .inr ⟨_, _, rfl, W2, h2⟩
  · exact .inl rfl
theorem ds_gfg {rest : List Stmt} {is : List Nat} {g : Sl → Mu → SR} (h2 : PSs X rest (tD X Wx W0 H0 g)) : PSs X rest (tD X Wx W0 H0 fun s m => SR.then_ (.nx (wipeS s is) m) fun s1 m1 => g s1 m1) :=
  ds_ghost (f := fun s m => .nx (wipeS s is) m) h2 fun Wl W s m σ H h => .inr ⟨_, _, rfl, W, h.forget is⟩
theorem d_pass {pos : Pos} : PS X (.Pass pos) (tD X Wx W0 H0 fun s m => .nx s m) := ps_imp ps_pass fun D σ H ⟨Wl, W, s, m, h, o⟩ => o W σ H h
theorem d_brk {pos : Pos} : PS X (.Break pos) (tD X Wx W0 H0 fun s m => .bk s m) := ps_imp ps_break fun D σ H ⟨Wl, W, s, m, h, o⟩ => o W σ H h
theorem d_cont {pos : Pos} : PS X (.Continue pos) (tD X Wx W0 H0 fun s m => .ct s m) := ps_imp ps_continue fun D σ H ⟨Wl, W, s, m, h, o⟩ => o W σ H h
theorem d_never {st : Stmt} : PS X st (tD X Wx W0 H0 fun _ _ => .bad) := ps_imp ps_never fun D σ H ⟨Wl, W, s, m, h, o⟩ => o
theorem d_retN {pos : Pos} : PS X (.Return none pos) (tD X Wx W0 H0 fun _ m => .rt (.val .non) m) := ps_imp ps_retN fun D σ H ⟨Wl, W, s, m, h, o⟩ => o W .non H h.h.toSt0 h.st rfl
theorem d_ex {e : Expr} {pos : Pos} {f : Sl → Mu → R SV} (he : PE X e (tS X Wx f)) (hs : swapsWith e none pos.line X.env = pure false) : PS X (.Expr e pos) (tD X Wx W0 H0 fun s m => (f s m).st s fun _ m1 => .nx s m1) :=
  ps_imp (ps_expr he hs) fun D σ H ⟨Wl, W, s, m, h, o⟩ => st_run f h o fun a m1 W1 b H1 _ h1 _ _ o1 => o1 W1 σ H1 h1
theorem d_doc {x : Str} {j : Nat} {pos pos' : Pos} : PS X (.Expr (.Constant (.str x) j pos) pos') (tD X Wx W0 H0 fun s m => .nx s m) := ps_imp ps_doc fun D σ H ⟨Wl, W, s, m, h, o⟩ => o W σ H h
theorem d_ret {e : Expr} {pos : Pos} {f : Sl → Mu → R SV} (he : PE X e (tS X Wx f)) : PS X (.Return (some e) pos) (tD X Wx W0 H0 fun s m => (f s m).st s fun x m1 => .rt x m1) :=
  ps_imp (ps_ret he) fun D σ H ⟨Wl, W, s, m, h, o⟩ => st_run f h o fun a m1 W1 b H1 _ h1 p1 av o1 => o1 W1 b H1 h1.h.toSt0 h1.st (rb_sv W0 H0 W H m W1 H1 a b h.h.toSt0 h.st p1 av)
theorem d_retS {i : Nat} {x : Str} {pos pos' : Pos} (hv : PE X (.Name x pos') (tVar i)) : PS X (.Return (some (.Name x pos')) pos) (tD X Wx W0 H0 fun s m => match s[i]? with | some (some (.own c)) => .rt (.own c) m | _ => .bad) := by
  refine ps_imp (ps_ret hv) fun D σ H ⟨Wl, W, s, m, h, o⟩ => ?_
  revert o
  dsimp only
  split
  · rename_i c e
    intro o
    obtain ⟨a, q, ow⟩ := h.h.own i c e
    exact ⟨_, q, o W _ H h.h.toSt0 h.st ⟨a, rfl, ow, h.of i c a e q⟩⟩
  · exact fun o => o.elim
theorem d_ife {c : Expr} {a b : List Stmt} {pos : Pos} {fc : Sl → Mu → R Bool} {f g : Sl → Mu → SR} (hc : PT X c (tT X Wx fc)) (ha : PSs X a (tD X Wx W0 H0 f)) (hb : PSs X b (tD X Wx W0 H0 g)) :
    PS X (.If c a b pos) (tD X Wx W0 H0 fun s m => (fc s m).st s fun t m1 => if t = true then f s m1 else g s m1) := by
  refine ps_imp (ps_if hc ha hb) fun D σ H ⟨Wl, W, s, m, h, o⟩ => st_run fc h o fun t m1 W1 t' H1 _ h1 _ et o1 => ?_
  obtain rfl : t = t' := et
  cases t with
  | true => exact ⟨Wl, W1, s, m1, h1, o1⟩
  | false => exact ⟨Wl, W1, s, m1, h1, o1⟩
/-! ### stores -/
theorem bind_names_s {K : PySem.W.Frag} {mg : Str → Option Value} {Wl W : Wd} {m : Mu} {H : Hp} {Q : L2.St → Hp → Prop} : ∀ (l : List Nat) (s : Sl) (σ : L2.St) (ds : List D) (vs : List V), l.length = ds.length → HoldF K mg W0 H0 Wl W s m σ H → Reps K mg W ds vs →
    (∀ σ2, HoldF K mg W0 H0 Wl W ((l.zip ds).foldl (fun s p => s.set p.1 (some (.val p.2))) s) m σ2 H → Q σ2 H) → gNames l vs σ H Q
  | [], s, σ, [], vs, _, h, r, k => by
    cases r
    exact ⟨rfl, k σ h⟩
  | i :: l, s, σ, d :: ds, vs, hl, h, ⟨v, t, e, rv, rt⟩, k => by
    subst e
    exact ⟨v, t, rfl, bind_names_s l (s.set i (some (.val d))) (σ.set i (some v)) ds t (by simpa using hl) (h.put i rv) rt k⟩
  | [], _, _, _ :: _, _, hl, _, _, _ => by simp at hl
  | _ :: _, _, _, [], _, hl, _, _, _ => by simp at hl
theorem bind_s {K : PySem.W.Frag} {mg : Str → Option Value} {Wl W : Wd} {m : Mu} {H : Hp} {t : T} {s s2 : Sl} {σ : L2.St} {d : D} {v : V} {Q : L2.St → Hp → Prop} (h : HoldF K mg W0 H0 Wl W s m σ H) (r : Rep K mg W d v) (e : bindT s t d = some s2)
    (k : ∀ σ2, HoldF K mg W0 H0 Wl W s2 m σ2 H → Q σ2 H) : tGT K t v σ H Q := by
  cases t with
  | nm i =>
    cases e
    exact k _ (h.put i r)
  | tp l =>
    cases d <;> try cases e
    rename_i ds
    have e' : (if l.length = ds.length then some ((l.zip ds).foldl (fun s p => s.set p.1 (some (.val p.2))) s) else none) = some s2 := e
    split at e'
    · rename_i hl
      cases e'
      obtain ⟨a, vs, rfl, hq, rs⟩ := r
      exact ⟨a, vs, rfl, SqT.of (h.h.sub _ _ hq), by rw [← rs.length, hl], bind_names_s l s σ ds vs hl h rs k⟩
    · cases e'
  | tl l =>
    cases d <;> try cases e
    rename_i ds
    have e' : (if l.length = ds.length then some ((l.zip ds).foldl (fun s p => s.set p.1 (some (.val p.2))) s) else none) = some s2 := e
    split at e'
    · rename_i hl
      cases e'
      obtain ⟨a, vs, rfl, hq, rs⟩ := r
      exact ⟨a, vs, rfl, SqL.of (h.h.sub _ _ hq), by rw [← rs.length, hl], bind_names_s l s σ ds vs hl h rs k⟩
    · cases e'
theorem d_asg {st : Stmt} {t : T} {f : Sl → Mu → R SV} (h0 : PS X st (tAsg (tS X Wx f) (tGT X.K t))) : PS X st (tD X Wx W0 H0 fun s m => (f s m).st s fun x m1 => (match bindT s t x.fz with | some s1 => .nx s1 m1 | none => .bad)) := by
  refine ps_imp h0 fun D σ H ⟨Wl, W, s, m, h, o⟩ => st_runz f h o fun a m1 W1 v H1 h1 p1 r o1 => ?_
  cases e : bindT s t a.fz with
  | none => rw [e] at o1; exact o1.elim
  | some s2 =>
    rw [e] at o1
    exact bind_s h1 r e fun σ2 h2 => o1 W1 σ2 H1 h2
theorem own_nn {K : PySem.W.Frag} {mg : Str → Option Value} {W : Wd} {s : Sl} {m : Mu} {σ : L2.St} {H : Hp} {a : Addr} (h : Holds K mg W s m σ H) (n : H a = none) : ∀ (j : Nat) (c' : Cell), s[j]? = some (some (.own c')) → σ[j]? ≠ some (some (.ref a)) := fun j c' e z => by
  obtain ⟨b, eb, ob⟩ := h.own j c' e
  rw [z] at eb
  cases eb
  obtain ⟨u, eu⟩ := ob.at_.ex
  rw [n] at eu
  cases eu
theorem d_asgO {st : Stmt} {i : Nat} {f : Sl → Mu → R SV} (h0 : PS X st (tAsg (tS X Wx f) (gName i))) : PS X st (tD X Wx W0 H0 fun s m => (f s m).st s fun x m1 => (match x with | .own c => .nx (s.set i (some (.own c))) m1 | _ => .bad)) := by
  refine ps_imp h0 fun D σ H ⟨Wl, W, s, m, h, o⟩ => st_run f h o fun a m1 W1 v H1 _ h1 p1 av o1 => ?_
  cases a with
  | val d => exact o1.elim
  | own c =>
    obtain ⟨p, rfl, ow, hn⟩ := rb_sv W0 H0 W H m W1 H1 _ _ h.h.toSt0 h.st p1 av
    obtain ⟨p', e', _, hn'⟩ := av
    cases e'
    exact o1 W1 _ H1 (h1.putO i ow hn (own_nn (s := s) (σ := σ) h.h hn'))
theorem d_asgM {st : Stmt} {i : Nat} {f : Sl → Mu → R SV} (h0 : PS X st (tAsg (tS X Wx f) (gName i))) : PS X st (tD X Wx W0 H0 fun s m => (f s m).st s fun x m1 => (match x with | .own c => .nx (s.set i (some (.val (.ref m1.length)))) (m1 ++ [c]) | _ => .bad)) := by
  refine ps_imp h0 fun D σ H ⟨Wl, W, s, m, h, o⟩ => st_run f h o fun a m1 W1 v H1 _ h1 p1 av o1 => ?_
  cases a with
  | val d => exact o1.elim
  | own c =>
    obtain ⟨p, rfl, ow, hn⟩ := rb_sv W0 H0 W H m W1 H1 _ _ h.h.toSt0 h.st p1 av
    obtain ⟨p', e', _, hn'⟩ := av
    cases e'
    obtain ⟨W2, h2⟩ := h1.lend (i := i) ow hn (own_nn (s := s) (σ := σ) h.h hn')
    exact o1 W2 _ H1 h2
end
end Dp
end

section
set_option Elab.async false
set_option linter.all false
set_option maxRecDepth 100000
set_option maxHeartbeats 1000000
/-! The deep layer, part 16: changes of containers, loops. -/
namespace Dp
open PySem PySem.Spec PyProof.Rows L2
section
variable {K : PySem.W.Frag} {mg : Str → Option Value} {Wx : WX} {W0 Wl W W1 : Wd} {H0 H H1 : Hp} {s : Sl} {m m1 : Mu} {σ : L2.St} {D : Ends}
/-- the container at a slot is changed -/
theorem chgO_ok {α : Type} {i : Nat} {f : Cell → Option (Cell × α)} {k : α → Sl → Mu → SR} (h : HoldF K mg W0 H0 Wl W s m σ H) (o : OutS K mg Wx W0 H0 Wl (chgO i s m f k) D) :
    ∃ c a c' r, s[i]? = some (some (.own c)) ∧ σ[i]? = some (some (.ref a)) ∧ CellAt K mg W H a c ∧ f c = some (c', r) ∧
      ∀ o' : HO, CellAt K mg W (upd H a o') a c' → HoldF K mg W0 H0 Wl W (s.set i (some (.own c'))) m σ (upd H a o') ∧ OutS K mg Wx W0 H0 Wl (k r (s.set i (some (.own c'))) m) D := by
  unfold chgO at o
  split at o
  · rename_i c e
    obtain ⟨a, ea, ow⟩ := h.h.own i c e
    split at o
    · rename_i c' r ef
      exact ⟨c, a, c', r, e, ea, ow.at_, ef, fun o' hc => ⟨h.write e ea hc, o⟩⟩
    · exact o.elim
  · exact o.elim
theorem chg_ok {α : Type} {i : Nat} {f : Cell → Option (Cell × α)} {k : α → Sl → Mu → SR} (h : HoldF K mg W0 H0 Wl W s m σ H) (o : OutS K mg Wx W0 H0 Wl (chg i s m f k) D) :
    ∃ c a c' r, σ[i]? = some (some (.ref a)) ∧ CellAt K mg W H a c ∧ f c = some (c', r) ∧
      ∀ o' : HO, CellAt K mg W (upd H a o') a c' → ∃ s' m', HoldF K mg W0 H0 Wl W s' m' σ (upd H a o') ∧ OutS K mg Wx W0 H0 Wl (k r s' m') D := by
  unfold chg at o
  split at o
  · rename_i c e
    obtain ⟨a, ea, ow⟩ := h.h.own i c e
    split at o
    · rename_i c' r ef
      exact ⟨c, a, c', r, ea, ow.at_, ef, fun o' hc => ⟨_, _, h.write e ea hc, o⟩⟩
    · exact o.elim
  · rename_i j e
    obtain ⟨v, ev, a, rfl, ha⟩ := h.h.slot i _ e
    split at o
    · rename_i c ec
      split at o
      · rename_i c' r ef
        refine ⟨c, a, c', r, ev, h.h.cell j a c ha ec, ef, fun o' hc => ⟨s, m.set j c', ?_, o⟩⟩
        obtain ⟨x2, p2⟩ := h.h.toSt0.setCell ha hc
        exact h.step p2 x2
      · exact o.elim
    · exact o.elim
  · exact o.elim
end
def omName : OM → String
  | .append => "append" | .insert => "insert" | .pop => "pop" | .popAt => "pop" | .reverse => "reverse" | .extend => "extend" | .clear => "clear"
section
variable {X : Cx} {Wx : WX} {W0 : Wd} {H0 : Hp}
/-- what a method of a list is asked for -/
def OmOk (X : Cx) (f : OM) : Prop := ∃ (id : String) (r : V → List V → Hp → VK → Prop), Slot "list" (Str.ofString (omName f)) id ∧ typeOf (.builtin id) = pure (.type "method_descriptor") ∧ MtR X id r ∧
  ∀ (W : Wd) (H : Hp) (a : Addr) (c c' : Cell) (ds : List D) (d : D) (vs : List V) (Q : VK), CellAt X.K X.mg W H a c → Reps X.K X.mg W ds vs → opM f c ds = some (c', d) →
    (∀ (u : V) (o' : HO), CellAt X.K X.mg W (upd H a o') a c' → Rep X.K X.mg W d u → Q u (upd H a o')) → (∃ xs, H a = some (.lst xs)) ∧ r (.ref a) vs H Q
theorem reps1 {K : PySem.W.Frag} {mg : Str → Option Value} {W : Wd} {d : D} {vs : List V} (h : Reps K mg W [d] vs) : ∃ v, vs = [v] ∧ Rep K mg W d v := by
  obtain ⟨v, r, rfl, h1, h2⟩ := h
  cases h2
  exact ⟨v, rfl, h1⟩
theorem reps2 {K : PySem.W.Frag} {mg : Str → Option Value} {W : Wd} {d e : D} {vs : List V} (h : Reps K mg W [d, e] vs) : ∃ v u, vs = [v, u] ∧ Rep K mg W d v ∧ Rep K mg W e u := by
  obtain ⟨v, r, rfl, h1, h2⟩ := h
  obtain ⟨u, rfl, h3⟩ := reps1 h2
  exact ⟨v, u, rfl, h1, h3⟩
theorem reps_erase {K : PySem.W.Frag} {mg : Str → Option Value} {W : Wd} : ∀ {ds : List D} {vs : List V} (k : Nat), Reps K mg W ds vs → Reps K mg W (ds.eraseIdx k) (vs.eraseIdx k)
  | [], _, k, h => by
    cases h
    rfl
  | _ :: _, _, 0, ⟨v, r, e, _, t⟩ => by
    subst e
    exact t
  | _ :: ds, _, k + 1, ⟨v, r, e, h, t⟩ => by
    subst e
    exact ⟨v, _, rfl, h, reps_erase k t⟩
theorem om_ok (f : OM) : OmOk X f := by
  cases f with
  | append =>
    refine ⟨"list.append", rAppend, PySem.F.slot_list_append, PySem.F.type_list_append, mt_append, fun W H a c c' ds d vs Q hc hr e q => ?_⟩
    unfold opM at e
    split at e <;> (try cases e) <;> (try (rename_i z; cases z; done))
    rename_i xs d'
    split at e
    · rename_i hz
      cases e
      obtain ⟨us, hu, ru⟩ := hc
      obtain ⟨v, rfl, rv⟩ := reps1 hr
      exact ⟨⟨us, hu⟩, a, us, v, rfl, rfl, hu, by rw [← ru.length]; exact hz, q .non _ ⟨_, upd_same, ru.append (Reps.one rv)⟩ rfl⟩
    · cases e
  | insert =>
    refine ⟨"list.insert", _, PySem.F.slot_list_insert, PySem.F.type_list_insert, mt_insert, fun W H a c c' ds d vs Q hc hr e q => ?_⟩
    unfold opM at e
    split at e <;> (try cases e) <;> (try (rename_i z; cases z; done))
    rename_i xs i d'
    split at e
    · rename_i hz
      cases e
      obtain ⟨us, hu, ru⟩ := hc
      obtain ⟨v, u, rfl, rv, rw'⟩ := reps2 hr
      cases rv
      exact ⟨⟨us, hu⟩, a, us, _, u, rfl, rfl, hu, by rw [← ru.length]; exact hz.1, (r63_le hz.2).1, (r63_le hz.2).2, q .non _ ⟨_, upd_same, ((ru.take _).append (Reps.one rw')).append (ru.drop _)⟩ rfl⟩
    · cases e
  | pop =>
    refine ⟨"list.pop", rPop, PySem.F.slot_list_pop, PySem.F.type_list_pop, mt_pop, fun W H a c c' ds d vs Q hc hr e q => ?_⟩
    unfold opM at e
    split at e <;> (try cases e) <;> (try (rename_i z; cases z; done))
    rename_i xs
    split at e
    · rename_i d' hz
      cases e
      obtain ⟨us, hu, ru⟩ := hc
      cases hr
      rw [ru.length] at hz
      obtain ⟨v, e1, rv⟩ := ru.get hz
      exact ⟨⟨us, hu⟩, a, us, v, rfl, rfl, hu, e1, q v _ ⟨_, upd_same, ru.dropLast⟩ rv⟩
    · cases e
  | popAt =>
    refine ⟨"list.pop", rPopAt, PySem.F.slot_list_pop, PySem.F.type_list_pop, mt_popAt, fun W H a c c' ds d vs Q hc hr e q => ?_⟩
    unfold opM at e
    split at e <;> (try cases e) <;> (try (rename_i z; cases z; done))
    rename_i xs i
    split at e
    · rename_i hz
      split at e
      · rename_i k hk
        split at e
        · rename_i d' hd
          cases e
          obtain ⟨us, hu, ru⟩ := hc
          obtain ⟨w, rfl, rw'⟩ := reps1 hr
          cases rw'
          rw [ru.length] at hk
          obtain ⟨v, e1, rv⟩ := ru.get hd
          exact ⟨⟨us, hu⟩, a, us, _, _, v, rfl, rfl, hu, (rs63_le hz).1, (rs63_le hz).2, hk, e1, q v _ ⟨_, upd_same, reps_erase k ru⟩ rv⟩
        · cases e
      · cases e
    · cases e
  | reverse =>
    refine ⟨"list.reverse", rReverse, PySem.F.slot_list_reverse, PySem.F.type_list_reverse, mt_reverse, fun W H a c c' ds d vs Q hc hr e q => ?_⟩
    unfold opM at e
    split at e <;> (try cases e) <;> (try (rename_i z; cases z; done))
    obtain ⟨us, hu, ru⟩ := hc
    cases hr
    exact ⟨⟨us, hu⟩, a, us, rfl, rfl, hu, q .non _ ⟨_, upd_same, ru.reverse⟩ rfl⟩
  | extend =>
    refine ⟨"list.extend", fun _ _ _ _ => False, PySem.F.slot_list_extend, PySem.F.type_list_extend, fun pins s σ H x xs v us Q I r1 r2 h => h.elim, fun W H a c c' ds d vs Q hc hr e q => ?_⟩
    unfold opM at e
    split at e <;> (try cases e) <;> (try (rename_i z; cases z; done))
  | clear =>
    refine ⟨"list.clear", rClear, PySem.F.slot_list_clear, PySem.F.type_list_clear, mt_clear, fun W H a c c' ds d vs Q hc hr e q => ?_⟩
    unfold opM at e
    split at e <;> (try cases e) <;> (try (rename_i z; cases z; done))
    obtain ⟨us, hu, ru⟩ := hc
    cases hr
    exact ⟨⟨us, hu⟩, a, us, rfl, rfl, hu, q .non _ ⟨_, upd_same, rfl⟩ rfl⟩
theorem few_ok {cpos : Pos} {e : Expr} {es : List Expr} {env : Env} (n1 : noStar e = true) (n2 : es.all noStar = true) (hf : (e :: es).length < 30) : ((backTo cpos (starEach (e :: es) env)).all (fun x => !x.1) && (backToKw cpos (keywordEach [] env)).all (fun x => x.1.isSome)
      && decide ((e :: es).length + ([] : List Keyword).length + (if ([] : List Keyword).isEmpty then 0 else 1) < 30)) = true := by
  rw [star_all (es := e :: es) (by simp [n1, List.all_eq_true.mp n2]; exact fun x hx => List.all_eq_true.mp n2 x hx)]
  show (true && true && decide ((e :: es).length + 0 + 0 < 30)) = true
  simp at hf ⊢
  omega
theorem isL_ok {K : PySem.W.Frag} {mg : Str → Option Value} {W : Wd} {H : Hp} {s : Sl} {m : Mu} {σ : L2.St} {i : Nat} (h : Holds K mg W s m σ H) (e : isL s i = true) : ∃ a xs, σ[i]? = some (some (.ref a)) ∧ H a = some (.lst xs) := by
  unfold isL at e
  split at e
  · rename_i ds ec
    obtain ⟨a, ea, ow⟩ := h.own i _ ec
    obtain ⟨us, hu, _⟩ := ow.at_
    exact ⟨a, us, ea, hu⟩
  · cases e
/-- the call of a list's method, its receiver a slot -/
theorem pe_om {f : OM} {x : Str} {i : Nat} {es : List Expr} {p apos pos : Pos} {fa : Sl → Mu → R (List D)} (hv : PE X (.Name x p) (tVar i)) (hl : (apos.endLine == pos.line) = true) (hf : es.length < 30) (hst : es.all noStar = true) (ha : PA X es (tL X Wx fa)) (h0 : es = [] → ∀ s m, fa s m = .ok [] m) :
    ∃ t : TE, PE X (.Call (.Attribute (.Name x p) (Str.ofString (omName f)) apos) es [] pos) t ∧
      ∀ (W0 Wl W : Wd) (H0 H : Hp) (s : Sl) (m : Mu) (σ : L2.St) (D : Ends) (k : Dp.D → Sl → Mu → SR) (Q : VK), HoldF X.K X.mg W0 H0 Wl W s m σ H → isL s i = true → OutS X.K X.mg Wx W0 H0 Wl ((fa s m).st s fun ds m1 => chgO i s m1 (fun c => opM f c ds) k) D →
        (∀ (W1 : Wd) (s1 : Sl) (m1 : Mu) (H1 : Hp) (d : Dp.D) (u : V), HoldF X.K X.mg W0 H0 Wl W1 s1 m1 σ H1 → Rep X.K X.mg W1 d u → OutS X.K X.mg Wx W0 H0 Wl (k d s1 m1) D → Q u H1) → t σ H Q := by
  obtain ⟨id, r, sl, ty, hm, hr⟩ := om_ok (X := X) f
  have key : ∀ (W0 Wl W1 : Wd) (H0 H1 : Hp) (s : Sl) (m1 : Mu) (σ : L2.St) (D : Ends) (k : Dp.D → Sl → Mu → SR) (Q : VK) (ds : List Dp.D) (vs : List V), HoldF X.K X.mg W0 H0 Wl W1 s m1 σ H1 → Reps X.K X.mg W1 ds vs → OutS X.K X.mg Wx W0 H0 Wl (chgO i s m1 (fun c => opM f c ds) k) D →
      (∀ (W1 : Wd) (s1 : Sl) (m1 : Mu) (H1 : Hp) (d : Dp.D) (u : V), HoldF X.K X.mg W0 H0 Wl W1 s1 m1 σ H1 → Rep X.K X.mg W1 d u → OutS X.K X.mg Wx W0 H0 Wl (k d s1 m1) D → Q u H1) → ∃ a, σ[i]? = some (some (.ref a)) ∧ r (.ref a) vs H1 Q := by
    intro W0 Wl W1 H0 H1 s m1 σ D k Q ds vs h1 rd o1 q
    obtain ⟨c, a, c', d, e1, e2, hc, ef, hw⟩ := chgO_ok h1 o1
    obtain ⟨_, hq⟩ := hr W1 H1 a c c' ds d vs Q hc rd ef fun u o' hc' ru => by
      obtain ⟨h2, o2⟩ := hw o' hc'
      exact q W1 _ m1 _ d u h2 ru o2
    exact ⟨a, e2, hq⟩
  cases es with
  | nil =>
    refine ⟨_, pe_bm0 PySem.F.plainAttrs_list sl ty hm hv (base_eq rfl) hl, fun W0 Wl W H0 H s m σ D k Q h hil o q => ?_⟩
    rw [h0 rfl] at o
    obtain ⟨a, xs, ea, hx⟩ := isL_ok h.h hil
    obtain ⟨a', ea', hq⟩ := key W0 Wl W H0 H s m σ D k Q [] [] h Reps.nil o q
    rw [ea] at ea'
    cases ea'
    exact ⟨.ref a, ea, .inl ⟨rfl, xs, SqL.of hx⟩, hq⟩
  | cons e es =>
    obtain ⟨n1, n2⟩ := Bool.and_eq_true_iff.mp (show (noStar e && es.all noStar) = true from hst)
    refine ⟨_, pe_bm PySem.F.plainAttrs_list sl ty hm hv ha (base_eq rfl) (few_ok n1 n2 hf) hl (star_cons n1) (star_any n2), fun W0 Wl W H0 H s m σ D k Q h hil o q => ?_⟩
    obtain ⟨a, xs, ea, hx⟩ := isL_ok h.h hil
    refine ⟨.ref a, ea, .inl ⟨rfl, xs, SqL.of hx⟩, st_run (A := LsAt X.K X.mg) fa h o fun ds m1 W1 vs H1 _ h1 p1 rd o1 => ?_⟩
    obtain ⟨a', ea', hq⟩ := key W0 Wl W1 H0 H1 s m1 σ D k Q ds vs h1 rd o1 q
    rw [ea] at ea'
    cases ea'
    exact hq
/-- {k: v}, the key a tuple: the new dict stands empty while the pair is made -/
def tDset (tk tv : TE) : TE := fun σ H Q => ∀ p, H p = none → tk σ (upd H p (.dT [])) fun x H1 => tv σ H1 fun y H2 => ∃ b k, x = .ref b ∧ H2 p = some (.dT []) ∧ H2 b = some (.tup (k.map kV)) ∧ Q (.ref p) (upd H2 p (.dT [(k, y)]))
theorem pe_dset {k v : Expr} {pos : Pos} {tk tv : TE} (hu : X.A.units + 1 < cLine) (hk : PE X k tk) (hv : PE X v tv) : PE X (.Dict [some k] [v] pos) (tDset tk tv) := by
  refine ⟨fun pins s σ H Q I q => ?_⟩
  have hn := I.hok.fresh (Nat.le_refl s.heap.objs.size)
  have I1 := I.laid (a := s.heap.objs.size) (o := .dT []) (h' := s.heap.push { cls := .type "dict", data := .dict #[] }) (t' := s.toks) (fun _ _ q => Heap.get?_push_of_some _ q) (Nat.le_refl _) (dt_empty s.heap I.big)
  refine wpAny_Dict_any rfl rfl (by simp) (by simp) (pairTrees_cons_walk (thn (hk.run pins _ σ _ _ I1 (q _ hn)) fun u s1 ⟨x, H1, I2, rx, q1⟩ => thn (hv.run pins s1 σ H1 _ I2 q1) fun w2 s2 ⟨y, H2, I3, ry, q2⟩ => pairTrees_nil_walk ?_))
  obtain ⟨b, k, rfl, ep, eb, q3⟩ := q2
  cases (show u = Value.ref b from rx)
  obtain ⟨z, hd, xs, rel, dd⟩ := dt_of I3.hok ep
  cases rel
  unfold storeAll
  rw [List.forIn_cons]
  refine wpAny_bind (wpAny_bind (wpAny_dictSet_heap (hsz := Nat.zero_le _) (show X.A.units < cLine by omega) (key_of I3.hok eb) dd fun h' dd' hs => wpAny_pure ?_))
  dsimp only
  rw [List.forIn_nil]
  refine wpAny_pure ⟨.ref s.heap.objs.size, _, ?_, rfl, q3⟩
  obtain ⟨r, es, ep', hq, h2, h3, h4, _, h5⟩ := dd'
  refine d_write I3 (by rw [ep]; exact True.intro) hs ⟨r, hq⟩ ⟨(show 1 ≤ sizeLine from by decide), hd, _, ((KT.put (kvs := []) .nil k eb ry).keeps fun c ys ec => ?_), r, es, ep', hq, h2, h3, h4, h5⟩
  rw [upd_ne (ne_of ec ep (fun z => nomatch z))]
  exact ec
theorem de_dset (hu : X.A.units + 200 < cLine) {k v : Expr} {pos : Pos} {fk fv : Sl → Mu → R SV} (hk : PE X k (tS X Wx fk)) (hv : PE X v (tS X Wx fv)) :
    PE X (.Dict [some k] [v] pos) (tS X Wx fun s m => (fk s m).bind fun y m1 => (fv s m1).bind fun z m2 => (match keyT y.fz with
      | some key => .ok (.own (.dt [key] [z.fz])) m2
      | none => .bad)) := by
  refine pe_imp (pe_dset (by omega) hk hv) fun σ H Q ⟨W, s, m, hs, out⟩ p hp => ?_
  obtain ⟨x0, p0, n1, n2⟩ := hs.toSt0.made hp (.dT [])
  have out : OutG X.K X.mg (SvAt X.K X.mg) Wx W H σ ((fk s m).bind fun y m1 => (fv s m1).bind fun z m2 => (match keyT y.fz with
      | some key => .ok (.own (.dt [key] [z.fz])) m2
      | none => .bad)) Q := out
  have hs0 := hs.step p0 x0
  refine ⟨W, s, m, hs0, ?_⟩
  cases ek : fk s m with
  | bad => rw [ek] at out; exact out.elim
  | ex x m1 => rw [ek] at out; exact fun W' d H' x' q e => out W' d H' x' (p0.trans x0 q) e
  | ok yv m1 =>
    rw [ek] at out
    have out : OutG X.K X.mg (SvAt X.K X.mg) Wx W H σ ((fv s m1).bind fun z m2 => (match keyT yv.fz with
      | some key => .ok (.own (.dt [key] [z.fz])) m2
      | none => .bad)) Q := out
    intro W1 v1 H1 x1 p1 av
    obtain ⟨W2, h2, p2, r2, _⟩ := freeze_new hs0 p1 (hs0.step p1 x1) av
    refine ⟨W2, s, m1, h2, ?_⟩
    cases ev : fv s m1 with
    | bad => rw [ev] at out; exact out.elim
    | ex x m2 => rw [ev] at out; exact fun W' d H' x' q e => out W' d H' x' ((p0.trans x0 p2).trans h2.toSt0 q) e
    | ok zv m2 =>
      rw [ev] at out
      have out : OutG X.K X.mg (SvAt X.K X.mg) Wx W H σ (match keyT yv.fz with
        | some key => .ok (.own (.dt [key] [zv.fz])) m2
        | none => .bad) Q := out
      intro W3 v2 H2 x3 p3 av2
      obtain ⟨W4, h4, p4, r4, _⟩ := freeze_new h2 p3 (h2.step p3 x3) av2
      cases e2 : keyT yv.fz with
      | none => rw [e2] at out; exact out.elim
      | some key =>
        rw [e2] at out
        have out : OutG X.K X.mg (SvAt X.K X.mg) Wx W H σ (.ok (.own (.dt [key] [zv.fz])) m2) Q := out
        obtain ⟨b, rfl, hb⟩ := keyT_v (Rep.mono p4.le _ _ r2) e2
        have k1 := p2.keep p _ upd_same n2
        have w1 := p2.nofz p _ upd_same n1 n2 (fun _ q => nomatch q)
        have w2 := p2.nth upd_same n2
        have k3 := p4.keep p _ k1 w2
        have w3 := p4.nofz p _ k1 w1 w2 (fun _ q => nomatch q)
        have w4 := p4.nth k1 w2
        refine ⟨b, key, rfl, k3, h4.toSt0.sub _ _ hb, ?_⟩
        exact out.fin2 (h4.toSt0.write w3 w4 _) (((p0.trans x0 p2).trans h2.toSt0 p4).updFresh hp _) ⟨p, rfl, ⟨⟨[v2], upd_same, rfl, Reps.one r4⟩, w3, w4⟩, hp⟩
/-- one element of a shared list taken out -/
theorem de_mpopI {o e : Expr} {apos cpos : Pos} {fo fe : Sl → Mu → R SV} (ho : PE X o (tS X Wx fo)) (he : PE X e (tS X Wx fe)) (h1 : noSup o = true) (n1 : noStar e = true) (hl : (apos.endLine == cpos.line) = true) :
    PE X (.Call (.Attribute o "pop" apos) [e] [] cpos) (tS X Wx fun s m => (fo s m).bind fun x m1 => if isML m1 x.fz = true then (fe s m1).bind fun y m2 => (match x.fz, y.fz with
      | .ref i, .int j => (match m2[i]? with
        | some (.lst ds) => if rs63 j = true then (match seqIndex? j ds.length with
          | some k => (match ds[k]? with
            | some d => .ok (.val d) (m2.set i (.lst (ds.eraseIdx k)))
            | none => .bad)
          | none => .bad) else .bad
        | _ => .bad)
      | _, _ => .bad) else .bad) := by
  refine pe_imp (pe_bm PySem.F.plainAttrs_list PySem.F.slot_list_pop (by first | rfl | kernel_rfl | (show builtinType _ = _; rw [builtinType_eq_fast]; kernel_rfl)) (mt_popAt (X := X)) ho (pa_cons he pa_nil (star_cons n1)) (base_eq h1) (few_ok n1 rfl (by simp)) hl (star_cons n1) (star_any rfl)) fun σ H Q ⟨W, s, m, hs, out⟩ => ?_
  refine runz rb_sv hs out fun xv m1 W1 v H1 h1 p1 av o1 => ?_
  split at o1
  · rename_i e0
    generalize xv.fz = x at o1 e0 av
    cases x <;> try cases e0
    rename_i i
    obtain ⟨a, rfl, ha⟩ := av
    unfold isML at e0
    dsimp only at e0
    split at e0
    · rename_i ds0 em
      obtain ⟨vs0, hv0, rv0⟩ := h1.cell i a _ ha em
      refine ⟨.inl ⟨rfl, vs0, SqL.of hv0⟩, ?_⟩
      refine runz rb_sv h1 o1 fun yv m2 W2 u H2 h2 p2 bv o2 => ?_
      generalize yv.fz = y at o2 bv
      cases y <;> try exact o2.elim
      rename_i j
      cases bv
      dsimp only at o2
      split at o2
      · rename_i ds e2
        split at o2
        · rename_i hz
          split at o2
          · rename_i k hk
            split at o2
            · rename_i d hd
              have ha2 : W2.th[i]? = some a := by
                obtain ⟨more, em2, _⟩ := p2.th
                rw [em2, List.getElem?_append_left (List.getElem?_eq_some_iff.mp ha).1]
                exact ha
              obtain ⟨vs, hv, rv⟩ := h2.cell i a _ ha2 e2
              rw [rv.length] at hk
              obtain ⟨w, e4, rw'⟩ := rv.get hd
              refine ⟨a, vs, j, k, w, rfl, rfl, hv, (rs63_le hz).1, (rs63_le hz).2, hk, e4, ?_⟩
              obtain ⟨x2, p3⟩ := h2.toSt0.setCell (c := .lst (ds.eraseIdx k)) (o := .lst (vs.eraseIdx k)) ha2 ⟨vs.eraseIdx k, upd_same, reps_erase k rv⟩
              exact o2.fin2 x2 p3 rw'
            · exact o2.elim
          · exact o2.elim
        · exact o2.elim
      · exact o2.elim
    · cases e0
  · exact o1.elim
theorem d_om {f : OM} {x : Str} {i : Nat} {es : List Expr} {p apos pos pos2 : Pos} {fa : Sl → Mu → R (List D)} (hv : PE X (.Name x p) (tVar i)) (hl : (apos.endLine == pos.line) = true) (hf : es.length < 30) (hst : es.all noStar = true) (ha : PA X es (tL X Wx fa)) (h0 : es = [] → ∀ s m, fa s m = .ok [] m) :
    PS X (.Expr (.Call (.Attribute (.Name x p) (Str.ofString (omName f)) apos) es [] pos) pos2) (tD X Wx W0 H0 fun s m => if isL s i = true then (fa s m).st s fun ds m1 => chgO i s m1 (fun c => opM f c ds) fun _ s1 m2 => .nx s1 m2 else .bad) := by
  obtain ⟨t, ht, k⟩ := pe_om (f := f) hv hl hf hst ha h0
  refine ps_imp (ps_expr ht rfl) fun D σ H ⟨Wl, W, s, m, h, o⟩ => ?_
  dsimp only at o
  split at o
  · rename_i hil
    exact k W0 Wl W H0 H s m σ D _ _ h hil o fun W1 s1 m1 H1 d u h1 _ o1 => o1 W1 σ H1 h1
  · exact o.elim
theorem d_omr {f : OM} {x y : Str} {i j : Nat} {es : List Expr} {p py apos pos pos2 : Pos} {fa : Sl → Mu → R (List D)} (hN : X.N.Nodup) (hy : X.N[j]? = some y) (hyl : Loc X.env.scope y) (hfn : X.fn y = true ∨ X.env.scope.names.lookup y = some .local) (hv : PE X (.Name x p) (tVar i)) (hl : (apos.endLine == pos.line) = true) (hf : es.length < 30) (hst : es.all noStar = true) (ha : PA X es (tL X Wx fa)) (h0 : es = [] → ∀ s m, fa s m = .ok [] m) :
    PS X (.Assign [.Name y py] (.Call (.Attribute (.Name x p) (Str.ofString (omName f)) apos) es [] pos) pos2) (tD X Wx W0 H0 fun s m => if isL s i = true then (fa s m).st s fun ds m1 => chgO i s m1 (fun c => opM f c ds) fun d s1 m2 => .nx (s1.set j (some (.val d))) m2 else .bad) := by
  obtain ⟨t, ht, k⟩ := pe_om (f := f) hv hl hf hst ha h0
  refine ps_imp (ps_set hN hy hyl ht rfl hfn) fun D σ H ⟨Wl, W, s, m, h, o⟩ => ?_
  dsimp only at o
  split at o
  · rename_i hil
    exact k W0 Wl W H0 H s m σ D _ _ h hil o fun W1 s1 m1 H1 d u h1 rd o1 => o1 W1 _ H1 (h1.put j rd)
  · exact o.elim
/-! ### items, fields -/
theorem zip_put {κ : Type} [DecidableEq κ] (k : κ) (v : V) : ∀ (ks : List κ) (vs : List V), ks.length = vs.length → (putKN k ks).zip (putKD k v ks vs) = putK (ks.zip vs) k v := by
  intro ks vs hl
  have hany : (ks.any fun g => decide (g = k)) = ((ks.zip vs).any fun kv => decide (kv.1 = k)) := by
    induction ks generalizing vs with
    | nil => rfl
    | cons g ks ih =>
      cases vs with
      | nil => simp at hl
      | cons u vs =>
        rw [List.zip_cons_cons, List.any_cons, List.any_cons, ih vs (by simpa using hl)]
  unfold putKN putKD putK
  rw [hany]
  by_cases h : ((ks.zip vs).any fun kv => decide (kv.1 = k)) = true
  · rw [if_pos h, if_pos h, if_pos h]
    clear h hany
    induction ks generalizing vs with
    | nil => rfl
    | cons g ks ih =>
      cases vs with
      | nil => simp at hl
      | cons u vs =>
        rw [List.zip_cons_cons, List.map_cons, List.map_cons, List.zip_cons_cons, ih vs (by simpa using hl)]
        by_cases hg : g = k
        · simp [hg]
        · simp [hg]
  · rw [if_neg h, if_neg h, if_neg h, List.zip_append hl]
    rfl
theorem putKN_len {κ α : Type} [DecidableEq κ] (k : κ) (d : α) {ks : List κ} {ds : List α} (hl : ks.length = ds.length) : (putKN k ks).length = (putKD k d ks ds).length := by
  unfold putKN putKD
  split
  · rw [List.length_map, List.length_zip, hl, Nat.min_self]
  · rw [List.length_append, List.length_append, hl]
    rfl
theorem reps_put {κ : Type} [DecidableEq κ] {K : PySem.W.Frag} {mg : Str → Option Value} {W : Wd} (k : κ) {d : D} {v : V} (rv : Rep K mg W d v) {ks : List κ} {ds : List D} {vs : List V} (hl : ks.length = ds.length) (r : Reps K mg W ds vs) : Reps K mg W (putKD k d ks ds) (putKD k v ks vs) := by
  unfold putKD
  split
  · rename_i h
    clear h
    induction ks generalizing ds vs with
    | nil => rfl
    | cons g ks ih =>
      cases ds with
      | nil => simp at hl
      | cons d' ds =>
        obtain ⟨u, t, rfl, h1, h2⟩ := r
        have ih' := ih (by simpa using hl) h2
        rw [List.zip_cons_cons, List.zip_cons_cons, List.map_cons, List.map_cons]
        by_cases hg : g = k
        · simp only [hg, if_true]
          exact Reps.cons rv ih'
        · simp only [hg, if_false]
          exact Reps.cons h1 ih'
  · exact r.append (Reps.one rv)
def rSetA : V → V → V → Hp → (Hp → Prop) → Prop := fun o i v H Q => rSetL o i v H Q ∨ ∃ a H', o = V.ref a ∧ DPut H a i v H' ∧ Q H'
theorem set_any (hu : X.A.units + 1 < cLine) : PSet X rSetA := by
  intro pins s σ H o i v ov iv u Q I ro ri rv h
  rcases h with h | ⟨a, H', rfl, g, q⟩
  · exact set_list pins s σ H o i v ov iv u Q I ro ri rv h
  · obtain rfl : ov = Value.ref a := ro
    exact d_setItem hu I g ri rv fun s4 I4 => ⟨H', I4, q⟩
def noSlc : Expr → Bool
  | .Slice .. => false
  | _ => true
theorem isO_ok {K : PySem.W.Frag} {mg : Str → Option Value} {W : Wd} {H : Hp} {s : Sl} {m : Mu} {σ : L2.St} {i : Nat} (h : Holds K mg W s m σ H) (e : isO s i = true) : ∃ a, σ[i]? = some (some (.ref a)) := by
  unfold isO at e
  split at e
  · rename_i c ec
    obtain ⟨a, ea, _⟩ := h.own i _ ec
    exact ⟨a, ea⟩
  · cases e
theorem map_unit {α : Type} {o : Option α} {p : α × Unit} (h : o.map (fun c' => (c', ())) = some p) : o = some p.1 := by
  obtain ⟨c, e1, e2⟩ := Option.map_eq_some_iff.mp h
  subst e2
  exact e1
theorem opSet_ok {K : PySem.W.Frag} {mg : Str → Option Value} {W : Wd} {H : Hp} {a : Addr} {c c' : Cell} {y x : D} {vy vx : V} {Q : Hp → Prop} (sub : Same W.Hf H) (hc : CellAt K mg W H a c) (ry : Rep K mg W y vy) (rx : Rep K mg W x vx) (e : opSet c y x = some c') (q : ∀ o', CellAt K mg W (upd H a o') a c' → Q (upd H a o')) : rSetA (.ref a) vy vx H Q := by
  cases c with
  | lst ds =>
    cases y <;> try cases e
    rename_i i
    obtain ⟨us, hu, ru⟩ := hc
    cases ry
    have e : (match ixN ds.length i with | some j => some (Cell.lst (ds.set j x)) | none => none) = some c' := e
    cases ej : ixN ds.length i with
    | none => rw [ej] at e; cases e
    | some j =>
      rw [ej] at e
      cases e
      exact .inl ⟨a, us, i, j, rfl, rfl, hu, by rw [← ru.length]; exact ej, q _ ⟨_, upd_same, ru.set j rx⟩⟩
  | dk ks ds =>
    obtain ⟨us, hu, hl, ru⟩ := hc
    cases y <;> try cases e
    · rename_i i
      cases ry
      have e : (if ks.length < sizeLine then some (Cell.dk (putKN (.inl i) ks) (putKD (.inl i) x ks ds)) else none) = some c' := e
      split at e
      · rename_i hz
        cases e
        have hl2 : (ks.zip us).length < sizeLine := by rw [List.length_zip, ← ru.length, hl, Nat.min_self, ← hl]; exact hz
        refine .inr ⟨a, _, rfl, DPut.k (k := .inl i) hu hl2, q _ ⟨putKD (.inl i) vx ks us, ?_, putKN_len _ _ hl, reps_put _ rx hl ru⟩⟩
        rw [upd_same, zip_put _ _ _ _ (hl.trans ru.length)]
      · cases e
    · rename_i i
      cases ry
      have e : (if ks.length < sizeLine then some (Cell.dk (putKN (.inr i) ks) (putKD (.inr i) x ks ds)) else none) = some c' := e
      split at e
      · rename_i hz
        cases e
        have hl2 : (ks.zip us).length < sizeLine := by rw [List.length_zip, ← ru.length, hl, Nat.min_self, ← hl]; exact hz
        refine .inr ⟨a, _, rfl, DPut.k (k := .inr i) hu hl2, q _ ⟨putKD (.inr i) vx ks us, ?_, putKN_len _ _ hl, reps_put _ rx hl ru⟩⟩
        rw [upd_same, zip_put _ _ _ _ (hl.trans ru.length)]
      · cases e
  | dt ks ds =>
    obtain ⟨us, hu, hl, ru⟩ := hc
    cases y <;> try cases e
    rename_i ys
    have e : (match keysD ys with | some k => if ks.length < sizeLine then some (Cell.dt (putKN k ks) (putKD k x ks ds)) else none | none => none) = some c' := e
    cases ek : keysD ys with
    | none => rw [ek] at e; cases e
    | some k =>
      rw [ek] at e
      dsimp only at e
      obtain ⟨b, ws, rfl, hb, rr⟩ := ry
      have eb := keysD_v rr ek
      subst eb
      split at e
      · rename_i hz
        cases e
        have hl2 : (ks.zip us).length < sizeLine := by rw [List.length_zip, ← ru.length, hl, Nat.min_self, ← hl]; exact hz
        refine .inr ⟨a, _, rfl, DPut.t (k := k) hu (sub _ _ hb) hl2, q _ ⟨putKD k vx ks us, ?_, putKN_len _ _ hl, reps_put _ rx hl ru⟩⟩
        rw [upd_same, zip_put _ _ _ _ (hl.trans ru.length)]
      · cases e
  | ins c ns ds => cases y <;> cases e
theorem d_seti (hu : X.A.units + 200 < cLine) {x : Str} {i : Nat} {b e : Expr} {p pos pos2 : Pos} {fb fe : Sl → Mu → R SV} (hv : PE X (.Name x p) (tVar i)) (hb : PE X b (tS X Wx fb)) (hn : noSlc b = true) (he : PE X e (tS X Wx fe)) :
    PS X (.Assign [.Subscript (.Name x p) b pos] e pos2) (tD X Wx W0 H0 fun s m => if isO s i = true then (fe s m).st s fun x m1 => (fb s m1).st s fun y m2 => chgO i s m2 (fun c => (opSet c y.fz x.fz).map fun c' => (c', ())) fun _ s1 m3 => .nx s1 m3 else .bad) := by
  have hg : PG X (.Subscript (.Name x p) b pos) (gSub (tVar i) (tS X Wx fb) rSetA) := pg_sub hv hb (set_any (by omega)) (by intro v; cases b <;> first | rfl | cases hn)
  refine ps_imp (ps_asg he hg (by cases e <;> rfl) (by cases e <;> rfl) rfl) fun D σ H ⟨Wl, W, s, m, h, o⟩ => ?_
  dsimp only at o
  split at o
  · rename_i hio
    obtain ⟨a, ea⟩ := isO_ok h.h hio
    refine st_runz fe h o fun xv m1 W1 v H1 h1 p1 rx o1 => ⟨.ref a, ea, st_runz fb h1 o1 fun yv m2 W2 u H2 h2 p2 ry o2 => ?_⟩
    obtain ⟨c, a', c', r, e1, e2, hc, ef, hw⟩ := chgO_ok h2 o2
    rw [ea] at e2
    cases e2
    refine opSet_ok h2.h.toSt0.sub hc ry (Rep.mono p2.le _ _ rx) (map_unit ef) fun o' hc' => ?_
    obtain ⟨h3, o3⟩ := hw o' hc'
    exact o3 W2 σ _ h3
  · exact o.elim
theorem zip_putF {f : Str} {v : V} : ∀ {ns : List Str} {d : D} {ds : List D} {vs : List V} {K : PySem.W.Frag} {mg : Str → Option Value} {W : Wd}, ns.length = ds.length → Reps K mg W ds vs → Rep K mg W d v →
    ∃ ws, putF f v (ns.zip vs) = (putFN f ns).zip ws ∧ Reps K mg W (putFD f d ns ds) ws ∧ (putFN f ns).length = (putFD f d ns ds).length
  | [], d, [], _, K, mg, W, _, h, rv => by
    cases h
    exact ⟨[v], rfl, Reps.one rv, rfl⟩
  | g :: ns, d, d' :: ds, _, K, mg, W, hl, ⟨u, r, e, h1, h2⟩, rv => by
    subst e
    by_cases hg : g = f
    · refine ⟨v :: r, ?_, ?_, ?_⟩
      · show (if g = f then (g, v) :: ns.zip r else (g, u) :: putF f v (ns.zip r)) = (if g = f then g :: ns else g :: putFN f ns).zip (v :: r)
        rw [if_pos hg, if_pos hg]
        rfl
      · show Reps K mg W (if g = f then d :: ds else d' :: putFD f d ns ds) (v :: r)
        rw [if_pos hg]
        exact Reps.cons rv h2
      · show (if g = f then g :: ns else g :: putFN f ns).length = (if g = f then d :: ds else d' :: putFD f d ns ds).length
        rw [if_pos hg, if_pos hg]
        simpa using hl
    · obtain ⟨ws, e1, r1, l1⟩ := zip_putF (f := f) (v := v) (ns := ns) (d := d) (by simpa using hl) h2 rv
      refine ⟨u :: ws, ?_, ?_, ?_⟩
      · show (if g = f then (g, v) :: ns.zip r else (g, u) :: putF f v (ns.zip r)) = (if g = f then g :: ns else g :: putFN f ns).zip (u :: ws)
        rw [if_neg hg, if_neg hg, e1]
        rfl
      · show Reps K mg W (if g = f then d :: ds else d' :: putFD f d ns ds) (u :: ws)
        rw [if_neg hg]
        exact Reps.cons h1 r1
      · show (if g = f then g :: ns else g :: putFN f ns).length = (if g = f then d :: ds else d' :: putFD f d ns ds).length
        rw [if_neg hg, if_neg hg]
        simpa using l1
  | [], _, _ :: _, _, _, _, _, hl, _, _ => by simp at hl
  | _ :: _, _, [], _, _, _, _, hl, _, _ => by simp at hl
theorem d_setf {G : Prog} {n : Nat} (xk : Xok G n X Wx) {x f : Str} {i : Nat} {e : Expr} {p pos pos2 : Pos} {fe : Sl → Mu → R SV} (hv : PE X (.Name x p) (tVar i)) (he : PE X e (tS X Wx fe)) :
    PS X (.Assign [.Attribute (.Name x p) f pos] e pos2) (tD X Wx W0 H0 fun s m => (fe s m).st s fun x m1 => chg i s m1 (fun c => (opFld G.flds f x.fz c).map fun c' => (c', ())) fun _ s1 m2 => .nx s1 m2) := by
  refine ps_imp (ps_fld hv he (by cases e <;> rfl)) fun D σ H ⟨Wl, W, s, m, h, o⟩ => st_runz fe h o fun xv m1 W1 v H1 h1 p1 rx o1 => ?_
  obtain ⟨c, a, c', r, ea, hc, ef, hw⟩ := chg_ok h1 o1
  have ef' := map_unit ef
  cases c with
  | ins cn ns ds =>
    obtain ⟨dx, us, hu, hl, ru⟩ := hc
    have ef2 : (match G.flds.lookup cn with
      | some fl => if f ∈ fl ∧ ns.length < 1000 then some (Cell.ins cn (putFN f ns) (putFD f xv.fz ns ds)) else none
      | none => none) = some c' := ef'
    cases hfl : G.flds.lookup cn with
    | none => rw [hfl] at ef2; cases ef2
    | some fl =>
      rw [hfl] at ef2
      dsimp only at ef2
      split at ef2
      · rename_i hff
        obtain ⟨cl, na⟩ := xk.fx.fld _ (lookup_str hfl)
        have ec := Option.some.inj ef2
        obtain ⟨ws, e1, r1, l1⟩ := zip_putF (f := f) (v := v) (d := xv.fz) hl ru rx
        refine ⟨.ref a, ea, a, _, dx, _, rfl, hu, cl, na f hff.1, by rw [List.length_zip]; have := hff.2; omega, ?_⟩
        obtain ⟨s', m', h2, o2⟩ := hw (.ins (He.ga X.K cn) dx (putF f v (ns.zip us))) (by rw [← ec]; exact ⟨dx, ws, by rw [upd_same, e1], l1, r1⟩)
        exact o2 W1 σ _ h2
      · cases ef2
  | _ => cases ef'
theorem d_aug {x : Str} {i : Nat} {op : BO} {e : Expr} {p pos : Pos} {fe : Sl → Mu → R SV} (hN : X.N.Nodup) (hx : X.N[i]? = some x) (hl : Loc X.env.scope x) (hf : X.fn x = true ∨ X.env.scope.names.lookup x = some .local) (he : PE X e (tS X Wx fe)) :
    (op = .add ∨ op = .sub) → PS X (.AugAssign (.Name x p) (boOp op) e pos) (tD X Wx W0 H0 fun s m => match s[i]? with
    | some (some (.val (.int a))) => (fe s m).st s fun y m1 => (match op, y.fz with
      | .add, .int b => .nx (s.set i (some (.val (.int (a + b))))) m1
      | .sub, .int b => .nx (s.set i (some (.val (.int (a - b))))) m1
      | _, _ => .bad)
    | _ => .bad) := by
  intro hop
  rcases hop with rfl | rfl
  · refine ps_imp (ps_aug hN hx hl he ip_add hf) fun D σ H ⟨Wl, W, s, m, h, o⟩ => ?_
    dsimp only at o
    split at o
    · rename_i a ea
      obtain ⟨v, ev, rv⟩ := h.h.slot i _ ea
      cases rv
      refine ⟨.int a, ev, st_runz fe h o fun yv m1 W1 v H1 h1 p1 ry o1 => ?_⟩
      generalize yv.fz = y at ry o1
      cases y <;> try exact o1.elim
      cases ry
      exact ⟨a, _, rfl, rfl, o1 W1 _ H1 (h1.put i rfl)⟩
    · exact o.elim
  · refine ps_imp (ps_aug hN hx hl he ip_sub hf) fun D σ H ⟨Wl, W, s, m, h, o⟩ => ?_
    dsimp only at o
    split at o
    · rename_i a ea
      obtain ⟨v, ev, rv⟩ := h.h.slot i _ ea
      cases rv
      refine ⟨.int a, ev, st_runz fe h o fun yv m1 W1 v H1 h1 p1 ry o1 => ?_⟩
      generalize yv.fz = y at ry o1
      cases y <;> try exact o1.elim
      cases ry
      exact ⟨a, _, rfl, rfl, o1 W1 _ H1 (h1.put i rfl)⟩
    · exact o.elim
/-! ### loops -/
theorem d_whl (hp : PassesOwn (model X.prog X.w) X.A X.env X.xe) {c : Expr} {body : List Stmt} {pos : Pos} {k : Nat} {fg : List Nat} {fc : Sl → Mu → R Bool} {fb : Sl → Mu → SR} (hc : PT X c (tT X Wx fc)) (hb : PSs X body (tD X Wx W0 H0 fb)) :
    PS X (.While c body [] pos) (tD X Wx W0 H0 fun s m => whlL fg fc fb k s m) := by
  refine ps_imp (ps_while hp hc hb) fun D σ H ⟨Wl, W, s, m, h, o⟩ => ?_
  refine ⟨fun j σ H => ∃ W s m, HoldF X.K X.mg W0 H0 Wl W s m σ H ∧ OutS X.K X.mg Wx W0 H0 Wl (whlL fg fc fb j s m) D, ⟨k, W, s, m, h, o⟩, ?_⟩
  rintro j σ H ⟨W, s, m, h, o⟩
  cases j with
  | zero => exact o.elim
  | succ j =>
    refine st_run fc h o fun t m1 W1 t' H1 _ h1 p1 et o1 => ?_
    obtain rfl : t = t' := et
    cases t with
    | false => exact o1 W1 σ H1 h1
    | true =>
      rw [if_pos rfl] at o1 ⊢
      refine ⟨fun σ H => ∃ W s m, HoldF X.K X.mg W0 H0 Wl W s m σ H ∧ OutS X.K X.mg Wx W0 H0 Wl (whlL fg fc fb j s m) D, fun σ' H' q => ⟨j, Nat.lt_succ_self j, q⟩, Wl, W1, s, m1, h1, ?_⟩
      revert o1
      cases fb s m1 with
      | nx s1 m2 => exact fun o1 W2 σ2 H2 h2 => ⟨W2, _, m2, h2.forget fg, o1⟩
      | ct s1 m2 => exact fun o1 W2 σ2 H2 h2 => ⟨W2, _, m2, h2.forget fg, o1⟩
      | bk s1 m2 => exact fun o1 W2 σ2 H2 h2 => o1 W2 σ2 H2 (h2.forget fg)
      | rt v m2 => exact id
      | ex x s1 m2 => exact id
      | bad => exact id
theorem d_for (hp : PassesOwn (model X.prog X.w) X.A X.env X.xe) (hc : X.calm = true) {tg iter : Expr} {body : List Stmt} {pos : Pos} {t : T} {fg : List Nat} {fi : Sl → Mu → R (List D)} {fb : Sl → Mu → SR} (hi : PI X tg iter (tI X Wx fi)) (hg : PG X tg (tGT X.K t)) (hb : PSs X body (tD X Wx W0 H0 fb)) (hs : ∀ x, foldedSetIterable iter X.env x = pure x) :
    PS X (.For tg iter body [] pos) (tD X Wx W0 H0 fun s m => (fi s m).st s fun ds m1 => forL fg (fun d s1 m2 => match bindT s1 t d with | some s2 => fb s2 m2 | none => .bad) ds s m1) := by
  refine ps_imp (ps_for hp hc hi hg hb hs) fun D σ H ⟨Wl, W, s, m, h, o⟩ => st_run fi h o fun ds m1 W1 J H1 _ h1 p1 it o1 => ?_
  refine ⟨fun i n σ H => n = ds.length - i ∧ i ≤ ds.length ∧ ∃ W s m, HoldF X.K X.mg W0 H0 Wl W s m σ H ∧ Le W1 W ∧ OutS X.K X.mg Wx W0 H0 Wl (forL fg (fun d s1 m2 => match bindT s1 t d with | some s2 => fb s2 m2 | none => .bad) (ds.drop i) s m) D, ⟨_, rfl, Nat.zero_le _, W1, s, m1, h1, Le.refl W1, o1⟩, ?_⟩
  rintro i n σ H ⟨rfl, hi, W2, s2, m2, h2, l2, o2⟩
  by_cases hlt : i < ds.length
  · refine .inr ⟨it.go W2 m2 H i l2 h2.h.toSt0 hlt, fun σ H => i + 1 ≤ ds.length ∧ ∃ W s m, HoldF X.K X.mg W0 H0 Wl W s m σ H ∧ Le W1 W ∧ OutS X.K X.mg Wx W0 H0 Wl (forL fg (fun d s1 m2 => match bindT s1 t d with | some s2 => fb s2 m2 | none => .bad) (ds.drop (i + 1)) s m) D,
      fun σ' H' q => ⟨ds.length - (i + 1), by omega, rfl, q⟩, fun x H' y => ?_⟩
    obtain ⟨W3, d, hd, x3, p3, rd⟩ := it.yld W2 m2 H i x H' l2 h2.h.toSt0 hlt y
    have ed : ds.drop i = d :: ds.drop (i + 1) := by
      rw [List.drop_eq_getElem_cons hlt]
      have e := hd
      rw [List.getElem?_eq_getElem hlt] at e
      cases e
      rfl
    rw [ed] at o2
    have h3 := h2.step p3 x3
    have l3 : Le W1 W3 := l2.trans p3.le
    unfold forL at o2
    cases eb : bindT s2 t d with
    | none => rw [eb] at o2; exact o2.elim
    | some s3 =>
      rw [eb] at o2
      refine bind_s h3 rd eb fun σ4 h4 => ⟨W3, W3, s3, m2, ⟨h4.h, h4.st, h4.of, Le.refl W3⟩, ?_⟩
      have lw : Le Wl W3 := h4.le
      revert o2
      dsimp only
      cases fb s3 m2 with
      | nx s5 m5 => exact fun o2 W5 σ5 H5 h5 => ⟨hlt, W5, _, m5, ⟨(h5.forget fg).h, h5.st, (h5.forget fg).of, lw.trans h5.le⟩, l3.trans h5.le, o2⟩
      | ct s5 m5 => exact fun o2 W5 σ5 H5 h5 => ⟨hlt, W5, _, m5, ⟨(h5.forget fg).h, h5.st, (h5.forget fg).of, lw.trans h5.le⟩, l3.trans h5.le, o2⟩
      | bk s5 m5 => exact fun o2 W5 σ5 H5 h5 => o2 W5 σ5 H5 ⟨(h5.forget fg).h, h5.st, (h5.forget fg).of, lw.trans h5.le⟩
      | rt v m5 => exact fun o2 => o2
      | ex x s5 m5 => exact fun o2 W5 σ5 d H5 h5 ea => o2 W5 σ5 d H5 ⟨h5.h, h5.st, h5.of, lw.trans h5.le⟩ ea
      | bad => exact fun o2 => o2
  · have e : i = ds.length := by omega
    subst e
    refine .inl ⟨it.stop W2 m2 H _ l2 h2.h.toSt0 (Nat.le_refl _), ?_⟩
    rw [List.drop_length] at o2
    exact o2 W2 σ H h2
end
end Dp
end

section
set_option Elab.async false
set_option linter.all false
set_option maxRecDepth 100000
set_option maxHeartbeats 4000000
/-! The deep layer, part 17: does the small syntax say what the text says? -/
namespace Dp
open PySem PySem.Spec PyProof.Rows L2
/-- where a piece of text stands -/
structure MC where
  N : List Str
  sc : Scope
  fn : Bool
def MC.blk (c : MC) (scope : Scope) : MC := ⟨c.N, relS scope c.sc, false⟩
structure Mat (c : MC) (X : Cx) : Prop where
  N : X.N = c.N
  sc : X.env.scope = c.sc
  fn : c.fn = true → ∀ x, X.fn x = true
def visB (sc : Scope) (x : Str) : Bool := match sc.names.lookup x with
  | some .local => true
  | some .cell => true
  | some .free => true
  | _ => false
def glB (sc : Scope) (x : Str) : Bool := match sc.names.lookup x with
  | some .globalImplicit => true
  | _ => false
def locB (c : MC) (x : Str) : Bool := match c.sc.names.lookup x with
  | some .local => true
  | some .cell => c.fn
  | _ => false
def nmB (c : MC) (x : Str) (i : Nat) : Bool := decide (c.N[i]? = some x) && (visB c.sc x && (!(x == ("__debug__" : Str)) && !(x == ("__classdict__" : Str))))
def plainTest : Expr → Bool
  | .UnaryOp .Not _ _ => false
  | .BoolOp .. => false
  | .IfExp .. => false
  | .Compare .. => false
  | _ => true
def noSet : Expr → Bool
  | .Set .. => false
  | _ => true
section
variable {c : MC} {X : Cx} (M : Mat c X)
theorem nm_ok {x : Str} {i : Nat} {pos : Pos} (M : Mat c X) (h : nmB c x i = true) : PE X (.Name x pos) (tVar i) := by
  unfold nmB at h
  simp only [Bool.and_eq_true, decide_eq_true_eq, Bool.not_eq_true'] at h
  obtain ⟨h1, h2, h3, h4⟩ := h
  refine pe_var (by rw [M.N]; exact h1) ?_ h3 h4
  unfold visB at h2
  unfold Vis
  rw [M.sc]
  split at h2
  · rename_i e; exact .inl e
  · rename_i e; exact .inr (.inl e)
  · rename_i e; exact .inr (.inr e)
  · cases h2
theorem gl_ok {x : Str} (M : Mat c X) (h : glB c.sc x = true) : Gl X x := by
  unfold glB at h
  show X.env.scope.names.lookup x = some .globalImplicit
  rw [M.sc]
  split at h
  · assumption
  · cases h
theorem loc_ok {x : Str} (M : Mat c X) (h : locB c x = true) : Loc X.env.scope x ∧ (X.fn x = true ∨ X.env.scope.names.lookup x = some .local) := by
  unfold locB at h
  unfold L2.Loc
  rw [M.sc]
  split at h
  · rename_i e; exact ⟨.inl e, .inr e⟩
  · rename_i e; exact ⟨.inr e, .inl (M.fn h x)⟩
  · cases h
theorem set_ok {e : Expr} (h : noSet e = true) : ∀ x, foldedSetIterable e X.env x = pure x := by
  intro x
  cases e <;> first | rfl | cases h
theorem test_ok {a : Expr} {env : Env} (h : plainTest a = true) : ∀ whole, isTrue a env whole = (do let v ← whole; standAt a.pos; holding [v] (truthy v)) := by
  intro whole
  cases a <;> first
    | rfl
    | (cases h; done)
    | (rename_i op x p; cases op <;> first | rfl | cases h)
theorem ix_ok {b : Expr} (h : noSlc b = true) : PlainIx b := by
  intro o i
  cases b <;> first | rfl | cases h
end
def tyList : List Ty → List Expr → Bool
  | [], [] => true
  | t :: ts, .Name y _ :: es => decide (y = tyNm t) && tyList ts es
  | _, _ => false
section
variable (G : Prog)
def tyOkB (c : MC) (t : Ty) : Bool := tyIn G t && glB c.sc (tyNm t)
def fnB (c : MC) (k : Nat) (x : Str) : Bool := (match G.fns[k]? with
  | some f => decide (f.at_.2 = none) && decide (f.at_.1 = x)
  | none => false) && (!(x == ("__debug__" : Str)) && glB c.sc x)
def mT (c : MC) : T → Expr → Bool
  | .nm i, .Name x _ => decide (c.N[i]? = some x) && locB c x
  | .tp l, .Tuple es _ _ => decide (l.length = es.length) && (l.zip es).all fun p => match p.2 with
    | .Name x _ => decide (c.N[p.1]? = some x) && locB c x
    | _ => false
  | .tl l, .Tuple es _ _ => decide (l.length = es.length) && (l.zip es).all fun p => match p.2 with
    | .Name x _ => decide (c.N[p.1]? = some x) && locB c x
    | _ => false
  | _, _ => false
mutual
def mE : E → MC → Expr → Bool
  | .var i, c, a => (match a with | .Name x _ => nmB c x i | _ => false)
  | .int n, _, a => (match a with | .Constant (.int k) _ _ => decide (n = k) | _ => false)
  | .bl n, _, a => (match a with | .Constant (.bool k) _ _ => decide (n = k) | _ => false)
  | .non, _, a => (match a with | .Constant .none _ _ => true | _ => false)
  | .str n, _, a => (match a with | .Constant (.str k) _ _ => decide (n = k) | _ => false)
  | .gint x n, c, a => (match a with | .Name y _ => decide (x = y) && (glB c.sc x && (!(x == ("__debug__" : Str)) && decide ((x, n) ∈ G.gints))) | _ => false)
  | .gdef _, _, _ => false
  | .bin o x y, c, a => (match a with | .BinOp l op r _ => decide (op = boOp o) && (mP x c l && mP y c r) | _ => false)
  | .neg x, c, a => (match a with | .UnaryOp .USub l _ => mE x c l | _ => false)
  | .cmp o x y, c, a => (match a with | .Compare l [op] [r] _ => decide (op = coOp o) && (mP x c l && (mP y c r && !behindInMarks op r)) | _ => false)
  | .chn o p x y z, c, a => (match a with | .Compare l [o1, o2] [q, r] _ => decide (o1 = coOp o) && (decide (o2 = coOp p) && (mE x c l && (mE y c q && (mE z c r && !lastMarks [o1, o2] [q, r])))) | _ => false)
  | .not x, c, a => (match a with | .UnaryOp .Not l _ => mE x c l | _ => false)
  | .and es, c, a => (match a with | .BoolOp .And vs _ => mAnd es c vs | _ => false)
  | .or es, c, a => (match a with | .BoolOp .Or vs _ => mAnd es c vs | _ => false)
  | .ife t x y, c, a => (match a with | .IfExp q l r _ => mB t c q && (mE x c l && mE y c r) | _ => false)
  | .tup es, c, a => (match a with | .Tuple vs _ _ => mEs es c vs | _ => false)
  | .lst es, c, a => (match a with | .List vs _ => mEs es c vs | _ => false)
  | .idx x y, c, a => (match a with | .Subscript l r _ => noSlc r && (mP x c l && mE y c r) | _ => false)
  | .slc x lo hi, c, a => (match a with | .Subscript l (.Slice lo' hi' none _) _ => mP x c l && (mO lo c lo' && mO hi c hi') | _ => false)
  | .call k es, c, a => (match a with | .Call (.Name x _) args [] _ => fnB G c k x && mEs es c args | _ => false)
  | .new cn k es, c, a => (match a with | .Call (.Name x _) (e :: args) [] _ => decide (cn = x) && (decide ((cn, k) ∈ G.news) && (!(cn == ("__debug__" : Str)) && (glB c.sc cn && mEs es c (e :: args)))) | _ => false)
  | .meth o m cs es, c, a => (match a with | .Call (.Attribute o' m' apos) args [] pos => decide (m = m') && (noSup o' && (apos.endLine == pos.line && (decide (args.length < 30) && ((cs.all fun p => decide (((p.1, m), p.2) ∈ G.mets)) && (mE o c o' && mEs es c args))))) | _ => false)
  | .attr o f, c, a => (match a with | .Attribute o' f' _ => decide (f = f') && (noSup o' && mP o c o') | _ => false)
  | .bif f es, c, a => (match a with
    | .Call (.Name x _) (e :: args) [] _ => decide (f ≠ .sortedR) && (decide (x = Str.ofString (bfName f)) && (glB c.sc x && mPs es c (e :: args)))
    | .Call (.Name x _) [e] [⟨some kw, .Constant (.bool true) _ _, _⟩] _ => decide (f = .sortedR) && (decide (x = Str.ofString "sorted") && (decide (kw = Str.ofString "reverse") && (glB c.sc x && mPs es c [e])))
    | _ => false)
  | .leno x ks, c, a => (match a with | .Call (.Name y _) [e] [] _ => decide (y = Str.ofString "len") && (glB c.sc y && ((ks.all fun p => decide (((p.1, Str.ofString "__len__"), p.2) ∈ G.mets)) && (noStar e && mE x c e))) | _ => false)
  | .isi x t, c, a => (match a with | .Call (.Name y _) [e, .Name z _] [] _ => decide (y = Str.ofString "isinstance") && (glB c.sc y && (decide (z = tyNm t) && (tyOkB G c t && (noStar e && mE x c e)))) | _ => false)
  | .isis x ts, c, a => (match a with | .Call (.Name y _) [e, .Tuple zs _ _] [] _ => decide (y = Str.ofString "isinstance") && (glB c.sc y && (!ts.isEmpty && (decide (ts.length < 30) && (tyList ts zs && (ts.all (tyOkB G c) && (noStar e && mE x c e)))))) | _ => false)
  | .lc t own it cd e, c, a => (match a with | .ListComp elt [⟨tg, iter, ifs, isa⟩] scope _ => decide (isa = 0) && (noSet iter && (blkC c.N c.sc scope own && ((t.slots.all fun i => decide (i ∈ own.map (·.2))) && (mT (c.blk scope) t tg && (mI it c tg iter && (mOB cd (c.blk scope) ifs && mE e (c.blk scope) elt)))))) | _ => false)
  | .mpop o, c, a => (match a with | .Call (.Attribute o' m' apos) [] [] pos => decide (m' = Str.ofString "pop") && (noSup o' && (apos.endLine == pos.line && mE o c o')) | _ => false)
  | .mpopI o x, c, a => (match a with | .Call (.Attribute o' m' apos) [e] [] pos => decide (m' = Str.ofString "pop") && (noSup o' && (apos.endLine == pos.line && (noStar e && (mE o c o' && mE x c e)))) | _ => false)
  | .dget o x y, c, a => (match a with | .Call (.Attribute o' m' apos) [l, r] [] pos => decide (m' = Str.ofString "get") && (noSup o' && (apos.endLine == pos.line && (noStar l && (noStar r && (mP o c o' && (mE x c l && mE y c r)))))) | _ => false)
  | .dset x y, c, a => (match a with | .Dict [some k] [v] _ => mE x c k && mE y c v | _ => false)
  | .inm neg x o ks, c, a => (match a with | .Compare l [op] [r] _ => decide (op = inmOp neg) && (!behindInMarks op r && ((ks.all fun p => decide (((p.1, Str.ofString "__contains__"), p.2) ∈ G.mets)) && (mE x c l && mE o c r))) | _ => false)
  | .dnew _, _, a => (match a with | .Dict [] [] _ => true | _ => false)
def mEs : Es → MC → List Expr → Bool
  | .nil, _, l => (match l with | [] => true | _ => false)
  | .cons e r, c, l => (match l with | a :: as => noStar a && (mE e c a && mEs r c as) | _ => false)
def mAnd : Es → MC → List Expr → Bool
  | .nil, _, _ => false
  | .cons e r, c, l => (match r, l with
    | .nil, [a] => mE e c a
    | .cons _ _, a :: b :: as => mE e c a && mAnd r c (b :: as)
    | _, _ => false)
def mP : P → MC → Expr → Bool
  | .e e, c, a => mE e c a
  | .sl i, c, a => (match a with | .Name x _ => nmB c x i | _ => false)
def mPs : Ps → MC → List Expr → Bool
  | .nil, _, l => (match l with | [] => true | _ => false)
  | .cons e r, c, l => (match l with | a :: as => noStar a && (mP e c a && mPs r c as) | _ => false)
def mO : O → MC → Option Expr → Bool
  | .none, _, o => (match o with | none => true | _ => false)
  | .some e, c, o => (match o with | some a => mE e c a | _ => false)
def mOB : OB → MC → List Expr → Bool
  | .none, _, l => (match l with | [] => true | _ => false)
  | .some b, c, l => (match l with | [a] => mB b c a | _ => false)
def mB : B → MC → Expr → Bool
  | .e p, c, a => plainTest a && mP p c a
  | .cmp o x y, c, a => (match a with | .Compare l [op] [r] _ => decide (op = coOp o) && (mP x c l && (mP y c r && !behindInMarks op r)) | _ => false)
  | .chn o p x y z, c, a => (match a with | .Compare l [o1, o2] [q, r] _ => decide (o1 = coOp o) && (decide (o2 = coOp p) && (mE x c l && (mE y c q && (mE z c r && !lastMarks [o1, o2] [q, r])))) | _ => false)
  | .not x, c, a => (match a with | .UnaryOp .Not l _ => mB x c l | _ => false)
  | .and bs, c, a => (match a with | .BoolOp .And vs _ => mBs bs c vs | _ => false)
  | .or bs, c, a => (match a with | .BoolOp .Or vs _ => mBs bs c vs | _ => false)
  | .inm neg x o ks, c, a => (match a with | .Compare l [op] [r] _ => decide (op = inmOp neg) && (!behindInMarks op r && ((ks.all fun p => decide (((p.1, Str.ofString "__contains__"), p.2) ∈ G.mets)) && (mE x c l && mE o c r))) | _ => false)
def mBs : Bs → MC → List Expr → Bool
  | .nil, _, _ => false
  | .cons b r, c, l => (match r, l with
    | .nil, [a] => mB b c a
    | .cons _ _, a :: a2 :: as => mB b c a && mBs r c (a2 :: as)
    | _, _ => false)
def mI : I → MC → Expr → Expr → Bool
  | .seq e, c, _, a => mE e c a
  | .rng1 e, c, _, a => (match a with | .Call (.Name y _) [l] [] _ => decide (y = Str.ofString "range") && (glB c.sc y && (noStar l && mE e c l)) | _ => false)
  | .rng2 e f, c, _, a => (match a with | .Call (.Name y _) [l, r] [] _ => decide (y = Str.ofString "range") && (glB c.sc y && (noStar l && (noStar r && (mE e c l && mE f c r)))) | _ => false)
  | .enum e, c, tg, a => (match tg, a with | .Tuple _ _ _, .Call (.Name y _) [l] [] _ => decide (y = Str.ofString "enumerate") && (glB c.sc y && (noStar l && mE e c l)) | _, _ => false)
  | .zip e f, c, tg, a => (match tg, a with | .Tuple _ _ _, .Call (.Name y _) [l, r] [] _ => decide (y = Str.ofString "zip") && (glB c.sc y && (noStar l && (noStar r && (mE e c l && mE f c r)))) | _, _ => false)
  | .rev e, c, _, a => (match a with | .Call (.Name y _) [l] [] _ => decide (y = Str.ofString "reversed") && (glB c.sc y && (noStar l && mE e c l)) | _ => false)
  | .revr e, c, _, a => (match a with | .Call (.Name y _) [.Call (.Name z _) [l] [] _] [] _ => decide (y = Str.ofString "reversed") && (decide (z = Str.ofString "range") && (glB c.sc y && (glB c.sc z && (noStar l && mE e c l)))) | _ => false)
end
end
end Dp
end

section
set_option Elab.async false
set_option linter.all false
set_option maxRecDepth 100000
set_option maxHeartbeats 4000000
/-! The deep layer, part 18: what is matched, holds (expressions). -/
namespace Dp
open PySem PySem.Spec PyProof.Rows L2
section
variable {X : Cx} {Wx : WX}
theorem pe_cast {a : Expr} {f g : Sl → Mu → R SV} (h : PE X a (tS X Wx f)) (k : ∀ s m, g s m = f s m) : PE X a (tS X Wx g) := by
  rw [show g = f from funext fun s => funext fun m => k s m]
  exact h
theorem pep_cast {a : Expr} {f g : Sl → Mu → R D} (h : PE X a (tP X Wx f)) (k : ∀ s m, g s m = f s m) : PE X a (tP X Wx g) := by
  rw [show g = f from funext fun s => funext fun m => k s m]
  exact h
theorem pt_cast {a : Expr} {f g : Sl → Mu → R Bool} (h : PT X a (tT X Wx f)) (k : ∀ s m, g s m = f s m) : PT X a (tT X Wx g) := by
  rw [show g = f from funext fun s => funext fun m => k s m]
  exact h
theorem pw_cast {a : Expr} {f g : Sl → Mu → R Bool} (h : PW X a (tT X Wx f)) (k : ∀ s m, g s m = f s m) : PW X a (tT X Wx g) := by
  rw [show g = f from funext fun s => funext fun m => k s m]
  exact h
theorem pa_cast {a : List Expr} {f g : Sl → Mu → R (List D)} (h : PA X a (tL X Wx f)) (k : ∀ s m, g s m = f s m) : PA X a (tL X Wx g) := by
  rw [show g = f from funext fun s => funext fun m => k s m]
  exact h
theorem pap_cast {a : List Expr} {f g : Sl → Mu → R (List D)} (h : PA X a (tLP X Wx f)) (k : ∀ s m, g s m = f s m) : PA X a (tLP X Wx g) := by
  rw [show g = f from funext fun s => funext fun m => k s m]
  exact h
theorem po_cast {a : Option Expr} {f g : Sl → Mu → R (Option Int)} (h : PO X a (tO X Wx f)) (k : ∀ s m, g s m = f s m) : PO X a (tO X Wx g) := by
  rw [show g = f from funext fun s => funext fun m => k s m]
  exact h
theorem pts_cast {a : List Expr} {f g : Sl → Mu → R Bool} (h : PTs X a (tT X Wx f)) (k : ∀ s m, g s m = f s m) : PTs X a (tT X Wx g) := by
  rw [show g = f from funext fun s => funext fun m => k s m]
  exact h
theorem pi_cast {tg a : Expr} {f g : Sl → Mu → R (List D)} (h : PI X tg a (tI X Wx f)) (k : ∀ s m, g s m = f s m) : PI X tg a (tI X Wx g) := by
  rw [show g = f from funext fun s => funext fun m => k s m]
  exact h
theorem pe_bool1 {op : BoolOp} {a : Expr} {pos : Pos} {t : TE} (h : PE X a t) : PE X (.BoolOp op [a] pos) t := ⟨fun pins s σ H Q I hw => h.run pins s σ H Q I hw⟩
theorem pts0 : PTs X [] (tT X Wx fun _ m => .ok true m) := ⟨fun pins s σ H Q I ⟨W, sl, m, hs, o⟩ => pts_nil.run pins s σ H Q I (o.fin hs.toSt0 rfl)⟩
end
theorem all_star {es : List Expr} (h : ∀ e ∈ es, noStar e = true) : es.all noStar = true := List.all_eq_true.mpr h
section
variable {G : Prog} {n : Nat}
theorem Mat.blk {c : MC} {X : Cx} (M : Mat c X) (s : Shared) (H : Hp) (scope : Scope) (C : Addr) (cl : List (Str × Addr)) (fp : List Addr) : Mat (c.blk scope) (X.blk s H scope (compEnvC scope cl C X.env) fp) where
  N := M.N
  sc := by
    show relabel scope X.env = relS scope c.sc
    rw [← M.sc]
    rfl
  fn := fun h => by cases h
theorem ty_list {ts : List Ty} {es : List Expr} (h : tyList ts es = true) : es.length = ts.length ∧ ∀ (i : Nat) (t : Ty) (e : Expr), ts[i]? = some t → es[i]? = some e → ∃ p, e = .Name (tyNm t) p := by
  induction ts generalizing es with
  | nil =>
    cases es with
    | nil => exact ⟨rfl, fun i t e h => by simp at h⟩
    | cons e es => cases h
  | cons t ts ih =>
    cases es with
    | nil => cases h
    | cons e es =>
      cases e <;> try (cases h; done)
      rename_i y p
      obtain ⟨h1, h2⟩ := Bool.and_eq_true_iff.mp (show (decide (y = tyNm t) && tyList ts es) = true from h)
      obtain ⟨i1, i2⟩ := ih h2
      refine ⟨by simp [i1], fun i t' e' a b => ?_⟩
      cases i with
      | zero =>
        simp at a b
        subst a b
        exact ⟨p, by rw [of_decide_eq_true h1]⟩
      | succ i => exact i2 i t' e' (by simpa using a) (by simpa using b)
theorem gNames_ok {c : MC} {X : Cx} (M : Mat c X) (hN : X.N.Nodup) : ∀ {l : List Nat} {es : List Expr}, l.length = es.length → ((l.zip es).all fun p => match p.2 with
    | .Name x _ => decide (c.N[p.1]? = some x) && locB c x
    | _ => false) = true → PGs X es (gNames l) ∧ (assignEach es X.env).length = l.length ∧ (assignEach es X.env).findIdx? (·.1) = none
  | [], [], _, _ => ⟨pgs_nil, rfl, rfl⟩
  | i :: l, e :: es, hl, h => by
    rw [List.zip_cons_cons, List.all_cons] at h
    obtain ⟨h1, h2⟩ := Bool.and_eq_true_iff.mp h
    obtain ⟨i1, i2, i3⟩ := gNames_ok M hN (l := l) (es := es) (by simpa using hl) h2
    cases e <;> try (cases h1; done)
    rename_i x p
    obtain ⟨h3, h4⟩ := Bool.and_eq_true_iff.mp (show (decide (c.N[i]? = some x) && locB c x) = true from h1)
    obtain ⟨l1, l2⟩ := loc_ok M h4
    refine ⟨pgs_cons (pg_name hN (by rw [M.N]; exact of_decide_eq_true h3) l1 l2) i1 rfl, ?_, ?_⟩
    · show (assignEach es X.env).length + 1 = l.length + 1
      rw [i2]
    · show List.findIdx? _ ((false, assign (.Name x p) X.env) :: assignEach es X.env) = none
      rw [List.findIdx?_cons]
      simp [i3]
  | [], _ :: _, hl, _ => by simp at hl
  | _ :: _, [], hl, _ => by simp at hl
theorem sT {c : MC} {X : Cx} (M : Mat c X) (hN : X.N.Nodup) (hc : X.calm = true) {t : T} {a : Expr} (h : mT c t a = true) : PG X a (tGT X.K t) := by
  cases t with
  | nm i =>
    cases a <;> try (cases h; done)
    rename_i x p
    obtain ⟨h3, h4⟩ := Bool.and_eq_true_iff.mp (show (decide (c.N[i]? = some x) && locB c x) = true from h)
    obtain ⟨l1, l2⟩ := loc_ok M h4
    exact pg_name hN (by rw [M.N]; exact of_decide_eq_true h3) l1 l2
  | tp l =>
    cases a <;> try (cases h; done)
    rename_i es k p
    obtain ⟨h1, h2⟩ := Bool.and_eq_true_iff.mp (show (decide (l.length = es.length) && (l.zip es).all fun p => match p.2 with
      | .Name x _ => decide (c.N[p.1]? = some x) && locB c x
      | _ => false) = true from h)
    obtain ⟨i1, i2, i3⟩ := gNames_ok M hN (of_decide_eq_true h1) h2
    exact pg_tup hc i1 i2 i3
  | tl l =>
    cases a <;> try (cases h; done)
    rename_i es k p
    obtain ⟨h1, h2⟩ := Bool.and_eq_true_iff.mp (show (decide (l.length = es.length) && (l.zip es).all fun p => match p.2 with
      | .Name x _ => decide (c.N[p.1]? = some x) && locB c x
      | _ => false) = true from h)
    obtain ⟨i1, i2, i3⟩ := gNames_ok M hN (of_decide_eq_true h1) h2
    exact pg_lst hc i1 i2 i3
theorem lookup_mets {mn : Str} {cs : List (Str × Nat)} (h : (cs.all fun p => decide (((p.1, mn), p.2) ∈ G.mets)) = true) : ∀ c k, cs.lookup c = some k → ((c, mn), k) ∈ G.mets := fun c k e =>
  of_decide_eq_true (List.all_eq_true.mp h (c, k) (lookup_str e))
theorem mEs_star {es : Es} {c : MC} {l : List Expr} (h : mEs G es c l = true) : l.all noStar = true := by
  induction l generalizing es with
  | nil => rfl
  | cons a as ih =>
    cases es with
    | nil => unfold mEs at h; cases h
    | cons e r =>
      unfold mEs at h
      obtain ⟨h1, h2⟩ := Bool.and_eq_true_iff.mp h
      obtain ⟨h3, h4⟩ := Bool.and_eq_true_iff.mp h2
      rw [List.all_cons, h1, ih h4]
      rfl
theorem mPs_star {es : Ps} {c : MC} {l : List Expr} (h : mPs G es c l = true) : l.all noStar = true := by
  induction l generalizing es with
  | nil => rfl
  | cons a as ih =>
    cases es with
    | nil => unfold mPs at h; cases h
    | cons e r =>
      unfold mPs at h
      obtain ⟨h1, h2⟩ := Bool.and_eq_true_iff.mp h
      obtain ⟨h3, h4⟩ := Bool.and_eq_true_iff.mp h2
      rw [List.all_cons, h1, ih h4]
      rfl
theorem fnB_ok {c : MC} {k : Nat} {x : Str} (h : fnB G c k x = true) : ∃ f, G.fns[k]? = some f ∧ f.at_.2 = none ∧ f.at_.1 = x ∧ (x == ("__debug__" : Str)) = false ∧ glB c.sc x = true := by
  unfold fnB at h
  obtain ⟨h1, h2⟩ := Bool.and_eq_true_iff.mp h
  obtain ⟨h3, h4⟩ := Bool.and_eq_true_iff.mp h2
  split at h1
  · rename_i f e
    obtain ⟨h5, h6⟩ := Bool.and_eq_true_iff.mp h1
    exact ⟨f, e, of_decide_eq_true h5, of_decide_eq_true h6, by simpa using h3, h4⟩
  · cases h1
mutual
theorem sE : ∀ (e : E) {c : MC} {X : Cx} {Wx : WX} {a : Expr}, Xok G n X Wx → Mat c X → mE G e c a = true → PE X a (tS X Wx (evE G (callN G n) e))
  | .var i, c, X, Wx, a, x, M, h => by
    unfold mE at h
    split at h
    · exact pe_cast (de_var (nm_ok M h)) fun _ _ => rfl
    · cases h
  | .int k, c, X, Wx, a, x, M, h => by
    unfold mE at h
    split at h
    · rw [of_decide_eq_true h]
      exact pe_cast (de_c (d := .int _) pe_int fun _ => rfl) fun _ _ => rfl
    · cases h
  | .bl k, c, X, Wx, a, x, M, h => by
    unfold mE at h
    split at h
    · rw [of_decide_eq_true h]
      exact pe_cast (de_c (d := .bl _) pe_bl fun _ => rfl) fun _ _ => rfl
    · cases h
  | .non, c, X, Wx, a, x, M, h => by
    unfold mE at h
    split at h
    · exact pe_cast (de_c (d := .non) pe_non fun _ => rfl) fun _ _ => rfl
    · cases h
  | .str k, c, X, Wx, a, x, M, h => by
    unfold mE at h
    split at h
    · rw [of_decide_eq_true h]
      exact pe_cast (de_c (d := .str _) pe_str fun _ => rfl) fun _ _ => rfl
    · cases h
  | .gint z k, c, X, Wx, a, x, M, h => by
    unfold mE at h
    split at h
    · simp only [Bool.and_eq_true, decide_eq_true_eq, Bool.not_eq_true'] at h
      obtain ⟨h1, h2, h3, h4⟩ := h
      subst h1
      exact pe_cast (de_gint x h4 (gl_ok M h2) h3) fun _ _ => rfl
    · cases h
  | .gdef z, c, X, Wx, a, x, M, h => by
    unfold mE at h
    cases h
  | .bin o p q, c, X, Wx, a, x, M, h => by
    unfold mE at h
    split at h
    · simp only [Bool.and_eq_true, decide_eq_true_eq] at h
      obtain ⟨h1, h2, h3⟩ := h
      subst h1
      exact pe_cast (de_bin (sP p x M h2) (sP q x M h3)) fun _ _ => rfl
    · cases h
  | .neg p, c, X, Wx, a, x, M, h => by
    unfold mE at h
    split at h
    · exact pe_cast (de_neg (sE p x M h)) fun _ _ => rfl
    · cases h
  | .cmp o p q, c, X, Wx, a, x, M, h => by
    unfold mE at h
    split at h
    · simp only [Bool.and_eq_true, decide_eq_true_eq, Bool.not_eq_true'] at h
      obtain ⟨h1, h2, h3, h4⟩ := h
      subst h1
      exact pe_cast (de_cmp x.units (sP p x M h2) (sP q x M h3) h4) fun _ _ => rfl
    · cases h
  | .chn o o2 p q r, c, X, Wx, a, x, M, h => by
    unfold mE at h
    split at h
    · simp only [Bool.and_eq_true, decide_eq_true_eq, Bool.not_eq_true'] at h
      obtain ⟨h1, h2, h3, h4, h5, h6⟩ := h
      subst h1 h2
      exact pe_cast (de_chn x.units (sE p x M h3) (sE q x M h4) (sE r x M h5) h6) fun _ _ => rfl
    · cases h
  | .not p, c, X, Wx, a, x, M, h => by
    unfold mE at h
    split at h
    · exact pe_cast (de_not (sE p x M h)) fun _ _ => rfl
    · cases h
  | .and es, c, X, Wx, a, x, M, h => by
    unfold mE at h
    split at h
    · exact pe_cast (sAnd es x M h) fun _ _ => rfl
    · cases h
  | .or es, c, X, Wx, a, x, M, h => by
    unfold mE at h
    split at h
    · exact pe_cast (sOr es x M h) fun _ _ => rfl
    · cases h
  | .ife t p q, c, X, Wx, a, x, M, h => by
    unfold mE at h
    split at h
    · simp only [Bool.and_eq_true] at h
      obtain ⟨h1, h2, h3⟩ := h
      exact pe_cast (de_ife (sB t x M h1) (sE p x M h2) (sE q x M h3)) fun _ _ => rfl
    · cases h
  | .tup es, c, X, Wx, a, x, M, h => by
    unfold mE at h
    split at h
    · exact pe_cast (de_tup (sEs es x M h)) fun _ _ => rfl
    · cases h
  | .lst es, c, X, Wx, a, x, M, h => by
    unfold mE at h
    split at h
    · exact pe_cast (de_lst (sEs es x M h)) fun _ _ => rfl
    · cases h
  | .idx p q, c, X, Wx, a, x, M, h => by
    unfold mE at h
    split at h
    · simp only [Bool.and_eq_true] at h
      obtain ⟨h1, h2, h3⟩ := h
      exact pe_cast (de_idx x.units (sP p x M h2) (sE q x M h3) (ix_ok h1)) fun _ _ => rfl
    · cases h
  | .slc p lo hi, c, X, Wx, a, x, M, h => by
    unfold mE at h
    split at h
    · simp only [Bool.and_eq_true] at h
      obtain ⟨h1, h2, h3⟩ := h
      exact pe_cast (de_slc (sP p x M h1) (sO lo x M h2) (sO hi x M h3)) fun _ _ => rfl
    · cases h
  | .call k es, c, X, Wx, a, x, M, h => by
    unfold mE at h
    split at h
    · rename_i args _
      obtain ⟨h1, h2⟩ := Bool.and_eq_true_iff.mp h
      obtain ⟨f, hf, e1, e2, e3, e4⟩ := fnB_ok h1
      subst e2
      have hs := mEs_star h2
      have ha := sEs es x M h2
      cases args with
      | nil =>
        cases es with
        | nil => exact pe_cast (de_call0 x hf e1 e3 (gl_ok M e4)) fun _ _ => rfl
        | cons e r => unfold mEs at h2; cases h2
      | cons a as =>
        obtain ⟨n1, n2⟩ := Bool.and_eq_true_iff.mp (show (noStar a && as.all noStar) = true from hs)
        exact pe_cast (de_call x hf e1 e3 (gl_ok M e4) n1 n2 ha) fun _ _ => rfl
    · cases h
  | .new cn k es, c, X, Wx, a, x, M, h => by
    unfold mE at h
    split at h
    · simp only [Bool.and_eq_true, decide_eq_true_eq, Bool.not_eq_true'] at h
      obtain ⟨h1, h2, h3, h4, h5⟩ := h
      subst h1
      obtain ⟨n1, n2⟩ := Bool.and_eq_true_iff.mp (show (noStar _ && List.all _ noStar) = true from mEs_star h5)
      obtain ⟨f, hf, _⟩ := x.fx.news _ h2
      exact pe_cast (de_new x (f := f) h2 h3 (gl_ok M h4) n1 n2 (sEs es x M h5)) fun _ _ => rfl
    · cases h
  | .meth o mn cs es, c, X, Wx, a, x, M, h => by
    unfold mE at h
    split at h
    · rename_i args _
      simp only [Bool.and_eq_true, decide_eq_true_eq] at h
      obtain ⟨h1, h2, h3, h4, h5, h6, h7⟩ := h
      subst h1
      have hs := mEs_star h7
      have ha := sEs es x M h7
      cases args with
      | nil =>
        cases es with
        | nil => exact pe_cast (de_meth0 x (lookup_mets h5) (sE o x M h6) h2 h3) fun _ _ => rfl
        | cons e r => unfold mEs at h7; cases h7
      | cons a as =>
        obtain ⟨n1, n2⟩ := Bool.and_eq_true_iff.mp (show (noStar a && as.all noStar) = true from hs)
        exact pe_cast (de_meth x (lookup_mets h5) (sE o x M h6) n1 n2 ha (meth_tree h2 hs h3 h4)) fun _ _ => rfl
    · cases h
  | .attr o f, c, X, Wx, a, x, M, h => by
    unfold mE at h
    split at h
    · simp only [Bool.and_eq_true, decide_eq_true_eq] at h
      obtain ⟨h1, h2, h3⟩ := h
      subst h1
      exact pe_cast (de_attr x (sP o x M h3) h2) fun _ _ => rfl
    · cases h
  | .bif f es, c, X, Wx, a, x, M, h => by
    unfold mE at h
    split at h
    · simp only [Bool.and_eq_true, decide_eq_true_eq] at h
      obtain ⟨h1, h2, h3, h4⟩ := h
      subst h2
      have hs := mPs_star h4
      obtain ⟨n1, n2⟩ := Bool.and_eq_true_iff.mp (show (noStar _ && List.all _ noStar) = true from hs)
      exact pe_cast (de_bif x.calm h1 (gl_ok M h3) (x.fx.blt _ (by cases f <;> decide)) (sPs es x M h4) (star_cons n1) (star_any n2)) fun _ _ => rfl
    · simp only [Bool.and_eq_true, decide_eq_true_eq] at h
      obtain ⟨h1, h2, h3, h4, h5⟩ := h
      subst h1 h2 h3
      have hs := mPs_star h5
      obtain ⟨n1, n2⟩ := Bool.and_eq_true_iff.mp (show (noStar _ && List.all _ noStar) = true from hs)
      exact pe_cast (de_sortR x.fx x.calm (gl_ok M h4) (sPs es x M h5) n1) fun _ _ => rfl
    · cases h
  | .leno p ks, c, X, Wx, a, x, M, h => by
    unfold mE at h
    split at h
    · simp only [Bool.and_eq_true, decide_eq_true_eq] at h
      obtain ⟨h1, h2, h3, h4, h5⟩ := h
      subst h1
      exact pe_cast (de_leno x (lookup_mets h3) (gl_ok M h2) (sE p x M h5) h4) fun _ _ => rfl
    · cases h
  | .isi p t, c, X, Wx, a, x, M, h => by
    unfold mE at h
    split at h
    · simp only [Bool.and_eq_true, decide_eq_true_eq] at h
      obtain ⟨h1, h2, h3, h4, h5, h6⟩ := h
      subst h1 h3
      obtain ⟨t1, t2⟩ := Bool.and_eq_true_iff.mp h4
      exact pe_cast (de_isi x.fx (gl_ok M h2) t1 (gl_ok M t2) (sE p x M h6) h5) fun _ _ => rfl
    · cases h
  | .isis p ts, c, X, Wx, a, x, M, h => by
    unfold mE at h
    split at h
    · simp only [Bool.and_eq_true, decide_eq_true_eq] at h
      obtain ⟨h1, h2, h3, h3b, h4, h5, h6, h7⟩ := h
      subst h1
      cases ts with
      | nil => cases h3
      | cons t ts =>
        obtain ⟨l1, l2⟩ := ty_list h4
        exact pe_cast (de_isis x.fx (gl_ok M h2) l1 l2 (fun t' ht => by
          obtain ⟨t1, t2⟩ := Bool.and_eq_true_iff.mp (List.all_eq_true.mp h5 t' ht)
          exact ⟨t1, gl_ok M t2⟩) (by rw [sizeLine_eq]; omega) (sE p x M h7) h6) fun _ _ => rfl
    · cases h
  | .lc t own it cd e, c, X, Wx, a, x, M, h => by
    unfold mE at h
    split at h
    · simp only [Bool.and_eq_true, decide_eq_true_eq] at h
      obtain ⟨h0, h1, h2, h3, h4, h5, h6, h7⟩ := h
      subst h0
      rw [← M.N, ← M.sc] at h2
      exact pe_cast (de_lc x.calm x.nd (sI it x M h5) (blkOk_by h2) (fun i hi => of_decide_eq_true (List.all_eq_true.mp h3 i hi))
        (fun s H C cl fp => sT (M.blk s H _ C cl fp) x.nd x.calm h4) (fun s H C cl fp => sOB cd (x.blk s H _ _ fp) (M.blk s H _ C cl fp) h6) (fun s H C cl fp => sE e (x.blk s H _ _ fp) (M.blk s H _ C cl fp) h7) (set_ok h1)) fun _ _ => rfl
    · cases h
  | .mpop o, c, X, Wx, a, x, M, h => by
    unfold mE at h
    split at h
    · simp only [Bool.and_eq_true, decide_eq_true_eq] at h
      obtain ⟨h1, h2, h3, h4⟩ := h
      subst h1
      exact pe_cast (de_mpop (sE o x M h4) h2 h3) fun _ _ => rfl
    · cases h
  | .mpopI o e, c, X, Wx, a, x, M, h => by
    unfold mE at h
    split at h
    · simp only [Bool.and_eq_true, decide_eq_true_eq] at h
      obtain ⟨h1, h2, h3, h4, h5, h6⟩ := h
      subst h1
      exact pe_cast (de_mpopI (sE o x M h5) (sE e x M h6) h2 h4 h3) fun _ _ => rfl
    · cases h
  | .dset p q, c, X, Wx, a, x, M, h => by
    unfold mE at h
    split at h
    · simp only [Bool.and_eq_true, decide_eq_true_eq] at h
      obtain ⟨h1, h2⟩ := h
      exact pe_cast (de_dset x.units (sE p x M h1) (sE q x M h2)) fun _ _ => rfl
    · cases h
  | .dget o p q, c, X, Wx, a, x, M, h => by
    unfold mE at h
    split at h
    · simp only [Bool.and_eq_true, decide_eq_true_eq] at h
      obtain ⟨h1, h2, h3, h4, h5, h6, h7, h8⟩ := h
      subst h1
      exact pe_cast (de_dget x.units (sP o x M h6) (sE p x M h7) (sE q x M h8) h2 h4 h5 h3) fun _ _ => rfl
    · cases h
  | .inm neg p o ks, c, X, Wx, a, x, M, h => by
    unfold mE at h
    split at h
    · simp only [Bool.and_eq_true, decide_eq_true_eq, Bool.not_eq_true'] at h
      obtain ⟨h1, h2, h3, h4, h5⟩ := h
      subst h1
      exact pe_cast (de_inm x (lookup_mets h3) (sE p x M h4) (sE o x M h5) h2) fun _ _ => rfl
    · cases h
  | .dnew tk, c, X, Wx, a, x, M, h => by
    unfold mE at h
    split at h
    · cases tk with
      | true => exact pe_cast de_dnewT fun _ _ => rfl
      | false => exact pe_cast de_dnewK fun _ _ => rfl
    · cases h
theorem sEs : ∀ (es : Es) {c : MC} {X : Cx} {Wx : WX} {l : List Expr}, Xok G n X Wx → Mat c X → mEs G es c l = true → PA X l (tL X Wx (evEs G (callN G n) es))
  | .nil, c, X, Wx, l, x, M, h => by
    unfold mEs at h
    split at h
    · exact pa_cast da_nil fun _ _ => rfl
    · cases h
  | .cons e r, c, X, Wx, l, x, M, h => by
    unfold mEs at h
    split at h
    · simp only [Bool.and_eq_true] at h
      obtain ⟨h1, h2, h3⟩ := h
      exact pa_cast (da_cons (sE e x M h2) (sEs r x M h3) (star_cons h1)) fun _ _ => rfl
    · cases h
theorem sAnd : ∀ (es : Es) {c : MC} {X : Cx} {Wx : WX} {l : List Expr} {pos : Pos}, Xok G n X Wx → Mat c X → mAnd G es c l = true → PE X (.BoolOp .And l pos) (tS X Wx (evAnd G (callN G n) es))
  | .nil, c, X, Wx, l, pos, x, M, h => by
    unfold mAnd at h
    cases h
  | .cons e r, c, X, Wx, l, pos, x, M, h => by
    unfold mAnd at h
    split at h
    · exact pe_cast (pe_bool1 (sE e x M h)) fun _ _ => rfl
    · obtain ⟨h1, h2⟩ := Bool.and_eq_true_iff.mp h
      exact pe_cast (de_and (sE e x M h1) (sAnd _ x M h2)) fun _ _ => rfl
    · cases h
theorem sOr : ∀ (es : Es) {c : MC} {X : Cx} {Wx : WX} {l : List Expr} {pos : Pos}, Xok G n X Wx → Mat c X → mAnd G es c l = true → PE X (.BoolOp .Or l pos) (tS X Wx (evOr G (callN G n) es))
  | .nil, c, X, Wx, l, pos, x, M, h => by
    unfold mAnd at h
    cases h
  | .cons e r, c, X, Wx, l, pos, x, M, h => by
    unfold mAnd at h
    split at h
    · exact pe_cast (pe_bool1 (sE e x M h)) fun _ _ => rfl
    · obtain ⟨h1, h2⟩ := Bool.and_eq_true_iff.mp h
      exact pe_cast (de_or (sE e x M h1) (sOr _ x M h2)) fun _ _ => rfl
    · cases h
theorem sP : ∀ (p : P) {c : MC} {X : Cx} {Wx : WX} {a : Expr}, Xok G n X Wx → Mat c X → mP G p c a = true → PE X a (tP X Wx (evP G (callN G n) p))
  | .e e, c, X, Wx, a, x, M, h => by
    unfold mP at h
    exact pep_cast (dp_e (sE e x M h)) fun _ _ => rfl
  | .sl i, c, X, Wx, a, x, M, h => by
    unfold mP at h
    split at h
    · exact pep_cast (dp_sl (nm_ok M h)) fun _ _ => rfl
    · cases h
theorem sPs : ∀ (es : Ps) {c : MC} {X : Cx} {Wx : WX} {l : List Expr}, Xok G n X Wx → Mat c X → mPs G es c l = true → PA X l (tLP X Wx (evPs G (callN G n) es))
  | .nil, c, X, Wx, l, x, M, h => by
    unfold mPs at h
    split at h
    · exact pap_cast dap_nil fun _ _ => rfl
    · cases h
  | .cons e r, c, X, Wx, l, x, M, h => by
    unfold mPs at h
    split at h
    · simp only [Bool.and_eq_true] at h
      obtain ⟨h1, h2, h3⟩ := h
      exact pap_cast (dap_cons (sP e x M h2) (sPs r x M h3) (star_cons h1)) fun _ _ => rfl
    · cases h
theorem sO : ∀ (o : O) {c : MC} {X : Cx} {Wx : WX} {a : Option Expr}, Xok G n X Wx → Mat c X → mO G o c a = true → PO X a (tO X Wx (evO G (callN G n) o))
  | .none, c, X, Wx, a, x, M, h => by
    unfold mO at h
    split at h
    · exact po_cast do_none fun _ _ => rfl
    · cases h
  | .some e, c, X, Wx, a, x, M, h => by
    unfold mO at h
    split at h
    · exact po_cast (do_some (sE e x M h)) fun _ _ => rfl
    · cases h
theorem sOB : ∀ (o : OB) {c : MC} {X : Cx} {Wx : WX} {l : List Expr}, Xok G n X Wx → Mat c X → mOB G o c l = true → PTs X l (tT X Wx (evOB G (callN G n) o))
  | .none, c, X, Wx, a, x, M, h => by
    unfold mOB at h
    split at h
    · exact pts_cast pts0 fun _ _ => rfl
    · cases h
  | .some b, c, X, Wx, a, x, M, h => by
    unfold mOB at h
    split at h
    · exact pts_cast (pts_one (sB b x M h)) fun _ _ => rfl
    · cases h
theorem sB : ∀ (b : B) {c : MC} {X : Cx} {Wx : WX} {a : Expr}, Xok G n X Wx → Mat c X → mB G b c a = true → PT X a (tT X Wx (evB G (callN G n) b))
  | .e p, c, X, Wx, a, x, M, h => by
    unfold mB at h
    obtain ⟨h1, h2⟩ := Bool.and_eq_true_iff.mp h
    exact pt_cast (dt_e (sP p x M h2) (test_ok h1)) fun _ _ => rfl
  | .cmp o p q, c, X, Wx, a, x, M, h => by
    unfold mB at h
    split at h
    · simp only [Bool.and_eq_true, decide_eq_true_eq, Bool.not_eq_true'] at h
      obtain ⟨h1, h2, h3, h4⟩ := h
      subst h1
      exact pt_cast (dt_cmp x.units (sP p x M h2) (sP q x M h3) h4) fun _ _ => rfl
    · cases h
  | .chn o o2 p q r, c, X, Wx, a, x, M, h => by
    unfold mB at h
    split at h
    · simp only [Bool.and_eq_true, decide_eq_true_eq, Bool.not_eq_true'] at h
      obtain ⟨h1, h2, h3, h4, h5, h6⟩ := h
      subst h1 h2
      exact pt_cast (dt_chn x.units (sE p x M h3) (sE q x M h4) (sE r x M h5) h6) fun _ _ => rfl
    · cases h
  | .not p, c, X, Wx, a, x, M, h => by
    unfold mB at h
    split at h
    · exact pt_cast (dt_not (sB p x M h)) fun _ _ => rfl
    · cases h
  | .and bs, c, X, Wx, a, x, M, h => by
    unfold mB at h
    split at h
    · exact pt_cast (sBand bs x M h).pt fun _ _ => rfl
    · cases h
  | .or bs, c, X, Wx, a, x, M, h => by
    unfold mB at h
    split at h
    · exact pt_cast (sBor bs x M h).pt fun _ _ => rfl
    · cases h
  | .inm neg p o ks, c, X, Wx, a, x, M, h => by
    unfold mB at h
    split at h
    · simp only [Bool.and_eq_true, decide_eq_true_eq, Bool.not_eq_true'] at h
      obtain ⟨h1, h2, h3, h4, h5⟩ := h
      subst h1
      exact pt_cast (dt_inm x (lookup_mets h3) (sE p x M h4) (sE o x M h5) h2) fun _ _ => rfl
    · cases h
theorem sBand : ∀ (bs : Bs) {c : MC} {X : Cx} {Wx : WX} {l : List Expr} {pos : Pos}, Xok G n X Wx → Mat c X → mBs G bs c l = true → PW X (.BoolOp .And l pos) (tT X Wx (evBand G (callN G n) bs))
  | .nil, c, X, Wx, l, pos, x, M, h => by
    unfold mBs at h
    cases h
  | .cons b r, c, X, Wx, l, pos, x, M, h => by
    unfold mBs at h
    split at h
    · exact pw_cast (dw_and1 (sB b x M h)) fun _ _ => rfl
    · obtain ⟨h1, h2⟩ := Bool.and_eq_true_iff.mp h
      exact pw_cast (dw_and (sB b x M h1) (sBand _ x M h2)) fun _ _ => rfl
    · cases h
theorem sBor : ∀ (bs : Bs) {c : MC} {X : Cx} {Wx : WX} {l : List Expr} {pos : Pos}, Xok G n X Wx → Mat c X → mBs G bs c l = true → PW X (.BoolOp .Or l pos) (tT X Wx (evBor G (callN G n) bs))
  | .nil, c, X, Wx, l, pos, x, M, h => by
    unfold mBs at h
    cases h
  | .cons b r, c, X, Wx, l, pos, x, M, h => by
    unfold mBs at h
    split at h
    · exact pw_cast (dw_or1 (sB b x M h)) fun _ _ => rfl
    · obtain ⟨h1, h2⟩ := Bool.and_eq_true_iff.mp h
      exact pw_cast (dw_or (sB b x M h1) (sBor _ x M h2)) fun _ _ => rfl
    · cases h
theorem sI : ∀ (i : I) {c : MC} {X : Cx} {Wx : WX} {tg a : Expr}, Xok G n X Wx → Mat c X → mI G i c tg a = true → PI X tg a (tI X Wx (evI G (callN G n) i))
  | .seq e, c, X, Wx, tg, a, x, M, h => by
    unfold mI at h
    exact pi_cast (di_seq (sE e x M h)) fun _ _ => rfl
  | .rng1 e, c, X, Wx, tg, a, x, M, h => by
    unfold mI at h
    split at h
    · simp only [Bool.and_eq_true, decide_eq_true_eq] at h
      obtain ⟨h1, h2, h3, h4⟩ := h
      subst h1
      exact pi_cast (di_rng1 x.fx (gl_ok M h2) (sE e x M h4) h3) fun _ _ => rfl
    · cases h
  | .rng2 e f, c, X, Wx, tg, a, x, M, h => by
    unfold mI at h
    split at h
    · simp only [Bool.and_eq_true, decide_eq_true_eq] at h
      obtain ⟨h1, h2, h3, h4, h5, h6⟩ := h
      subst h1
      exact pi_cast (di_rng2 x.fx (gl_ok M h2) (sE e x M h5) (sE f x M h6) h3 h4) fun _ _ => rfl
    · cases h
  | .enum e, c, X, Wx, tg, a, x, M, h => by
    unfold mI at h
    split at h
    · simp only [Bool.and_eq_true, decide_eq_true_eq] at h
      obtain ⟨h1, h2, h3, h4⟩ := h
      subst h1
      exact pi_cast (di_enum x.fx (gl_ok M h2) (sE e x M h4) h3) fun _ _ => rfl
    · cases h
  | .zip e f, c, X, Wx, tg, a, x, M, h => by
    unfold mI at h
    split at h
    · simp only [Bool.and_eq_true, decide_eq_true_eq] at h
      obtain ⟨h1, h2, h3, h4, h5, h6⟩ := h
      subst h1
      exact pi_cast (di_zip x.fx (gl_ok M h2) (sE e x M h5) (sE f x M h6) h3 h4) fun _ _ => rfl
    · cases h
  | .rev e, c, X, Wx, tg, a, x, M, h => by
    unfold mI at h
    split at h
    · simp only [Bool.and_eq_true, decide_eq_true_eq] at h
      obtain ⟨h1, h2, h3, h4⟩ := h
      subst h1
      exact pi_cast (di_rev x.fx (gl_ok M h2) (sE e x M h4) h3) fun _ _ => rfl
    · cases h
  | .revr e, c, X, Wx, tg, a, x, M, h => by
    unfold mI at h
    split at h
    · simp only [Bool.and_eq_true, decide_eq_true_eq] at h
      obtain ⟨h1, h2, h3, h4, h5, h6⟩ := h
      subst h1 h2
      exact pi_cast (di_revr x.fx (gl_ok M h3) (gl_ok M h4) (sE e x M h6) h5) fun _ _ => rfl
    · cases h
end
end
end Dp
end

section
set_option Elab.async false
set_option linter.all false
set_option maxRecDepth 100000
set_option maxHeartbeats 4000000
/-! An exception's own __init__: super().__init__(text); self.f = x. -/
namespace XI
open PySem PySem.W PySem.Calls PyProof.Rows
/-- what is known of the class at C and of its __init__ at f -/
structure Sup (prog : Program) (K : Frag) (mg : Str → Option Value) (C f cda cc : Addr) (fd : FuncData) (scope : Scope) : Prop where
  lf : ∃ oc od osl, K.lookup f = some ⟨oc, od, .func fd, osl⟩
  par : ∃ ar, (fd.params.posonlyargs ++ fd.params.args).head? = some ar ∧ ar.arg = ("self" : Str)
  code : ∃ ccl cdd vs ccs file tf, K.lookup cda = some ⟨ccl, cdd, .fields vs, ccs⟩ ∧ vs[2]? = some (.str file tf) ∧ ((prog.main.file : Str) == file) = true
  cell : ∃ cl cld csl, K.lookup cc = some ⟨cl, cld, .cell (some (.ref C)), csl⟩
  cls : ∃ cd, clsIn K C = some cd
  sub : mroIn K C (.ref C) = some true
  nosup : mg "super" = none
  ks : scope.names.lookup ("super" : Str) = some .globalImplicit
  kc : scope.names.lookup ("__class__" : Str) = some .free
  ka : scope.names.lookup ("self" : Str) = some .local
  kk : scope.kind = .function
  top : (prog.main.scope.names.lookup ("super" : Str)).isSome = false
section
variable {prog : Program} {w : World} {A : Around} {E : Value → Shared → Prop} {K : Frag} {mg mb m : Str → Option Value} {s : Shared} {h₀ : Heap} {L C f cda cc x : Addr} {fd : FuncData} {scope : Scope} {news : List (Addr × Obj)} {ox : Obj} {odx : Option Obj}
theorem cls_at (X : K.In h₀) {cd : ClassData} (e : clsIn K C = some cd) : ∃ oD, h₀.get? C = some oD ∧ oD.data = .cls cd := by
  unfold clsIn at e
  split at e
  · rename_i c d cd' sl ho
    cases e
    exact ⟨_, X _ _ ho, rfl⟩
  · cases e
/-- super(), in such a def -/
theorem sup_node (S : Sup prog K mg C f cda cc fd scope) {body : List Stmt} {q : Str} {p0 p1 : Pos} {attr : Str} {whole : Sem Value} {Q : Value → Shared → Prop} (F : Fr h₀ L s.heap m) (X₀ : K.In h₀) (N : News h₀ L s.heap news) (hg : h₀.Ns mainGlobals mg) (hb : h₀.Ns builtinsNs mb) (hbs : mb "super" = some (.type "super"))
    (hv : m "self" = some (.ref x)) (I : InstAt s.heap x ox C odx) (hat : (attr == ("__class__" : Str)) = false)
    (k : ∀ so h', Fr h₀ L h' m → News h₀ L h' ((so, ks_superObj C x C) :: news) → (∀ p ∈ news, p.1 < so) → Q (.ref so) { s with heap := h' }) :
    _root_.PySem.wpAt (model prog w) A (.func body (ksEnv q scope L f (.ref cda) cc)) (attributeBase (.Call (.Name "super" p0) [] [] p1) attr (ksEnv q scope L f (.ref cda) cc) whole) Q E s := by
  have X : K.In s.heap := X₀.keeps F.keep
  obtain ⟨oc, od, osl, lf⟩ := S.lf
  obtain ⟨ar, par, ear⟩ := S.par
  obtain ⟨ccl, cdd, vs, ccs, file, tf, lcode, hvs, hfile⟩ := S.code
  obtain ⟨cl, cld, csl, lcell⟩ := S.cell
  obtain ⟨cd, hcd⟩ := S.cls
  obtain ⟨oD, hD1, hD2⟩ := cls_at X hcd
  obtain ⟨hh, g, d, t, os⟩ := s
  refine ks_wpAt_super_base (env := ksEnv q scope L f (.ref cda) cc) S.ks S.kc hat rfl (X _ _ lf) rfl par rfl (X _ _ lcode) rfl hvs hfile S.top ?_
  refine ks_loadName_global S.kk S.ks (loadGlobal_builtin (env := ksEnv q scope L f (.ref cda) cc) (hg.keeps F.keep) S.nosup (hb.keeps F.keep) hbs ⟨rfl, wpAny_loadName_free S.kk S.kc rfl ⟨_, X _ _ lcell, rfl⟩ ?_⟩)
  rw [ear]
  refine wpAny_loadName_local S.kk S.ka F.ns hv (ks_wpAny_isType_cls hD1 hD2 ⟨rfl, ks_wpAny_call_super hD1 hD2 I.at_ I.cls (fun c e => ?_) (looks_mroIn X S.sub) fun h' e kp => ?_⟩)
  · have no := I.no
    unfold notCls at no
    rw [e] at no
    exact Bool.noConfusion no
  · have np := ks_newsPush (s := ⟨hh, g, d, t, os⟩) F N rfl e kp
    exact k _ _ np.1 np.2.1 np.2.2
end
end XI
end

section
set_option Elab.async false
set_option linter.all false
set_option maxRecDepth 100000
set_option maxHeartbeats 4000000
namespace XI
open PySem PySem.W PySem.Calls PyProof.Rows
/-- more of the class, for the whole of its __init__ -/
structure Ini (prog : Program) (K : Frag) (mg : Str → Option Value) (C f cda cc : Addr) (fd : FuncData) (qual : Str) (scope : Scope) (y fl : Str) : Prop extends Sup prog K mg C f cda cc fd scope where
  rec_ : codeIn K (.ref cda) qual = true
  nocell : ∀ z ∈ scope.names, z.2 ≠ .cell
  loc : scope.names.lookup y = some .local
  co : scope.isCoroutine = false
  gen : scope.isGenerator = false
  sup : ks_superIn K C C "__init__" = some (some (.builtin "ValueError.__init__"))
  ve : subIn K (.ref C) (.type "ValueError") = some true
  third : nsIn K cStatics "thirdparty.any" = some none
  ini : excInitIn K C [.type "ValueError", .type "Exception", .type "BaseException", .type "object"] "ValueError.__new__" = true
  ox : L2.OexC K C
  nofl : findIn K (.ref C) fl = some none
section
variable {prog : Program} {w : World} {A : Around} {E : Value → Shared → Prop} {K : Frag} {mg mb m : Str → Option Value} {s : Shared} {base : Heap} {L C f cda cc x : Addr} {name qual : Str} {params : Arguments} {scope : Scope} {dV kV doc pm ct : Value} {an : Option Addr}
theorem init_run {tx y fl : Str} {j : Nat} {p0 p1 p2 p3 p4 p5 p6 p7 p8 p9 : Pos} {u : Value} {args : Args} {R : Result → Shared → Prop} {t0 : Addr} {body : List Stmt}
    (hbody : body = [.Expr (.Call (.Attribute (.Call (.Name "super" p0) [] [] p1) "__init__" p2) [.Constant (.str tx) j p3] [] p4) p5, .Assign [.Attribute (.Name "self" p6) fl p7] (.Name y p8) p9])
    (S : Ini prog K mg C f cda cc (ksFn name qual params body scope dV kV doc pm an (.ref cda) ct cc) qual scope y fl)
    (lf : ∃ oc od osl, K.lookup f = some ⟨oc, od, .func (ksFn name qual params body scope dV kV doc pm an (.ref cda) ct cc), osl⟩)
    (hroom : A.depth < recursionLimit) (hlim : s.heap.NoLimit) (X : K.In base) (hkb : ∀ b o, base.get? b = some o → s.heap.get? b = some o) (hxb : base.get? x = none) (hg : base.Ns mainGlobals mg) (hb : base.Ns builtinsNs mb) (hbs : mb "super" = some (.type "super"))
    (he : s.heap.get? x = some (excObj C t0 none .none)) (hbind : BindsTo s (ksFn name qual params body scope dV kV doc pm an (.ref cda) ct cc) args [("self", .ref x), (y, u)]) (hys : y ≠ "self") (hyd : (y == ("__debug__" : Str)) = false)
    (hs1 : ∀ L : Addr, swapsWith (.Call (.Attribute (.Call (.Name "super" p0) [] [] p1) "__init__" p2) [.Constant (.str tx) j p3] [] p4) none p5.line (ksEnv qual scope L f (.ref cda) cc) = pure false) (hint : ∀ L : Addr, interactive (ksEnv qual scope L f (.ref cda) cc) = false) (hs2 : ∀ L : Addr, swapsWith (.Name y p8) (some (.Attribute (.Name "self" p6) fl p7)) p9.line (ksEnv qual scope L f (.ref cda) cc) = pure false)
    (hcall : ∀ L : Addr, ∃ pl : Sem Bool, eval (.Call (.Attribute (.Call (.Name "super" p0) [] [] p1) "__init__" p2) [.Constant (.str tx) j p3] [] p4) (ksEnv qual scope L f (.ref cda) cc) = (do
      let ov ← attributeBase (.Call (.Name "super" p0) [] [] p1) "__init__" (ksEnv qual scope L f (.ref cda) cc) (eval (.Call (.Name "super" p0) [] [] p1) (ksEnv qual scope L f (.ref cda) cc))
      standAt p2.atName
      let (fx, first) ← holding [ov] (getMethod ov "__init__" pl)
      callWith p4 fx first (backTo p4 (starEach [.Constant (.str tx) j p3] (ksEnv qual scope L f (.ref cda) cc))) []))
    (hpl : ∀ L : Addr, backTo p4 (starEach [.Constant (.str tx) j p3] (ksEnv qual scope L f (.ref cda) cc)) = [(false, eval (.Constant (.str tx) j p3) (ksEnv qual scope L f (.ref cda) cc))])
    (hq : ∀ h' tk' dx t', (∀ b o, b ≠ x → s.heap.get? b = some o → h'.get? b = some o) → s.heap.objs.size ≤ dx → dx ≠ x → h'.get? x = some ({ cls := .ref C, dict := some dx, data := .fields #[.ref t', .none, .none, .none, .bool false, .none] } : Obj) →
      h'.Ns1 dx (fun z => if z = fl then some u else none) → R (.ok (.ret .none)) { s with heap := h', toks := tk' }) :
    codeAny (model prog w) A (.call (.ref f) args) R s := by
  subst hbody
  obtain ⟨oc, od, osl, lf⟩ := lf
  have XS : K.In s.heap := X.keeps hkb
  refine ks_codeAny_call_defAt (fd := ksFn name qual params _ scope dV kV doc pm an (.ref cda) ct cc) (binds := [("self", .ref x), (y, u)]) hroom (XS _ _ lf) rfl hlim (codeRec_of XS S.rec_) rfl hbind S.nocell (fun z hz => ?_) (fun h₁ hns hk₁ => ?_) S.co S.gen S.kk
  · rcases List.mem_cons.mp hz with rfl | hz
    · exact S.ka
    · obtain rfl := List.mem_singleton.mp hz
      exact S.loc
  have kG : ∀ b o, base.get? b = some o → (hideAll s.heap [x]).get? b = some o := fun b o e => hideAll_get _ (hkb b o e) fun z => by
    rw [List.mem_singleton.mp z] at e
    rw [hxb] at e
    cases e
  have XG : K.In (hideAll s.heap [x]) := X.keeps kG
  have F : Fr (hideAll s.heap [x]) s.heap.objs.size h₁ (fun z => ([("self", Value.ref x), (y, u)] : List (Str × Value)).reverse.lookup z) := ⟨hns, fun b o e => hk₁ b o (of_hideAll _ e), Nat.le_of_eq (hideAll_size _ _)⟩
  have xL : x ≠ s.heap.objs.size := Nat.ne_of_lt (Heap.lt_size he)
  have N : News (hideAll s.heap [x]) s.heap.objs.size h₁ [(x, excObj C t0 none .none)] := fun p hp => by
    obtain rfl := List.mem_singleton.mp hp
    exact ⟨hk₁ _ _ he, xL, hideAll_none _ (List.mem_singleton.mpr rfl)⟩
  have mself : ([("self", Value.ref x), (y, u)] : List (Str × Value)).reverse.lookup ("self" : Str) = some (.ref x) := by
    show List.lookup ("self" : Str) [(y, u), (("self" : Str), Value.ref x)] = _
    have ne : ((("self" : Str) == y) = false) := by
      rw [beq_eq_false_iff_ne]
      exact fun z => hys z.symm
    rw [List.lookup_cons, ne]
    rfl
  have my : ([("self", Value.ref x), (y, u)] : List (Str × Value)).reverse.lookup y = some u := by
    show List.lookup y [(y, u), (("self" : Str), Value.ref x)] = _
    simp
  generalize hM : (fun z => ([("self", Value.ref x), (y, u)] : List (Str × Value)).reverse.lookup z) = M at F hns
  have mself' : M "self" = some (.ref x) := by rw [← hM]; exact mself
  have my' : M y = some u := by rw [← hM]; exact my
  show _root_.PySem.wpAt (model prog w) _ (.func _ (ksEnv qual scope s.heap.objs.size f (.ref cda) cc)) (execs _ (ksEnv qual scope s.heap.objs.size f (.ref cda) cc)) _ _ _
  obtain ⟨pl, hpl'⟩ := hcall s.heap.objs.size
  have hs1' := hs1 s.heap.objs.size
  have hint' := hint s.heap.objs.size
  have hs2' := hs2 s.heap.objs.size
  have hpl2 := hpl s.heap.objs.size
  obtain ⟨hh, g, d, t, os⟩ := s
  refine ks_wpAt_execs_cons (ks_wpAt_Expr_any (ks_wpAt_MethodCall (pl := pl) (sup_node S.toSup F XG N (hg.keeps kG) (hb.keeps kG) hbs mself' (InstAt.of_exc0 N (List.mem_singleton.mpr rfl)) (by decide) fun so h2 F2 N2 l2 => ?_) hpl') hint' hs1')
  have lx : x < so := l2 (x, excObj C t0 none .none) (List.mem_singleton.mpr rfl)
  refine kxs_method (s := ⟨h2, g, d, _, os⟩) kxs_ValueError F2 XG N2 (List.mem_cons_self ..) (InstAt.of_exc0 N2 (List.mem_cons_of_mem _ (List.mem_singleton.mpr rfl))) S.third S.sup S.ve (by decide) fun q h3 F3 N3 l3 => ?_
  have lq : so < q := l3 (so, ks_superObj C x C) (List.mem_cons_self ..)
  rw [hpl2]
  refine kxs_callWith (i := "ValueError.__init__") (x := x) rfl (evalArgs_plain (spliced_cons (Constant_str (spliced_nil ⟨kxs_at N3 (List.mem_cons_self ..), ?_⟩))))
  refine kxs_call (s := ⟨h3, g, d, _, os⟩) F3 XG N3 PySem.F.excBase_ValueError S.ini (List.mem_cons_self ..) (.tail (Nat.ne_of_gt (Nat.lt_trans lx lq)) (.tail (Nat.ne_of_gt lx) (.head fun p hp => nomatch hp))) (by show 1 ≤ sizeLine; rw [sizeLine_eq]; omega) fun t' h4 F4 N4 l4 => ?_
  have x4 : h4.get? x = some (excObj C t' none .none) := (N4 (x, excObj C t' none .none) (by simp)).1
  refine ks_wpAt_execs_cons (wpAt_of_wpAny (plainObj_wpAny_Assign_Attribute (nameX_L (s := ⟨h4, g, d, _, os⟩) F4 my' (nameX_L (s := ⟨h4, g, d, _, os⟩) F4 mself' ?_ S.kk S.ka (by decide)) S.kk S.loc hyd) hs2'))
  obtain ⟨nm, qc, Nc, bs, bm, sn, sub, ab, col, dd, k0, k1, k2, k3, k5, hC, hbm⟩ := S.ox.cls
  have hcl : clsIn K C = some { name := nm, bases := bs, mro := .ref C :: bm, ns := Nc, qualname := qc, hasDict := true, slotNames := sn, subclasses := sub, abstract := ab, collection := col, hasDel := false } := by unfold clsIn; rw [hC] <;> rfl
  refine set_plain (s := ⟨h4, g, d, _, os⟩) (XG.keeps F4.keep) (ox := excObj C t' none .none) (od := none) ⟨x4, rfl, rfl, trivial⟩ S.ox.sa ?_
  refine PySem.HandSPX.exc_osa (XG.keeps F4.keep) x4 hcl (show PySem.HandSPX.refsVE (.ref C :: bm) = true from hbm) rfl S.nofl fun h5 tk5 dx k5 dn dne hx5 hn5 => ?_
  refine wpAt_of_wpAny (wpAny_execs_nil ?_)
  refine hq h5 tk5 dx t' (fun b o hbx e => k5 b o hbx (F4.keep b o (hideAll_get _ e fun z => hbx (List.mem_singleton.mp z)))) ?_ dne hx5 hn5
  have lt := F4.ns.lt
  exact Nat.le_trans (Nat.le_of_lt lt) dn
end
end XI
end

section
set_option Elab.async false
set_option linter.all false
set_option maxRecDepth 100000
set_option maxHeartbeats 4000000
/-! C(e): an exception made. -/
namespace Dp
open PySem PySem.Spec PyProof.Rows L2
section
variable {P : Program} {w : World} {H : Hp} {hp h' : Heap} {a C dx : Addr} {fl : Str} {y : V} {u : Value} {fs ex : List Addr}
/-- what has become of the heap behind the exception's __init__ -/
theorem xi_un {t' : Addr} (hok : HOk P w H hp) (ea : H a = some (exo a C none)) (kp : ∀ b o, b ≠ a → hp.get? b = some o → h'.get? b = some o) (hsz : hp.objs.size ≤ dx) (hda : dx ≠ a)
    (hx : h'.get? a = some ({ cls := .ref C, dict := some dx, data := .fields #[.ref t', .none, .none, .none, .bool false, .none] } : Obj)) (hn : h'.Ns1 dx (fun z => if z = fl then some u else none)) (ry : RelV y u) :
    Un fs ex H (upd (upd H dx (exd dx [(fl, y)])) a (exo a C (some dx))) hp h' ∧ HOk P w (upd (upd H dx (exd dx [(fl, y)])) a (exo a C (some dx))) h' := by
  have fresh : H dx = none := hok.fresh hsz
  have old : ∀ {b : Addr} {o : Obj}, hp.get? b = some o → b ≠ dx := fun q => Nat.ne_of_lt (Nat.lt_of_lt_of_le (Heap.lt_size q) hsz)
  have free : ∀ {b : Addr}, H b = none → b ≠ a := fun {b} n z => by rw [z, ea] at n; cases n
  have two : ∀ {b : Addr}, b ≠ a → b ≠ dx → (upd (upd H dx (exd dx [(fl, y)])) a (exo a C (some dx))) b = H b := fun {b} n1 n2 => by rw [upd_ne n1, upd_ne n2]
  constructor
  · constructor
    · intro b o q n _ _
      exact kp b o (free n) q
    · intro b o q n _ _
      exact ⟨o.slots, kp b o (free n) q⟩
    · intro b o q n _
      rw [two (free n) (old q)]
      exact n
    · intro b o q _
      rcases Nat.decEq b a with z | z
      · exact ⟨o, kp b o z q⟩
      · exact ⟨_, z ▸ hx⟩
    · intro b xs q
      rw [two (at_ne ea q exo_tup) (ne_of_none q fresh)]
      exact q
    · intro b o v q
      rw [two (at_ne ea q exo_frz) (ne_of_none q fresh)]
      exact q
    · intro b ps q
      refine ⟨#[], ?_⟩
      rw [two (at_ne ea q exo_tbl) (ne_of_none q fresh), q]
      simp
  · intro b o q
    rcases Nat.decEq b a with nb | rfl
    · rw [upd_ne nb] at q
      rcases Nat.decEq b dx with nd | rfl
      · rw [upd_ne nd] at q
        refine (hok b o q).stay (fun c v hc z => kp c v ?_ z) (fun c hc => ?_) fun c xs hc => ?_
        · rcases hc with rfl | hc
          · exact nb
          · exact at_ne ea hc exo_own
        · rw [two (at_ne ea hc exo_own) (ne_of_none hc fresh)]
          exact hc
        · rw [two (at_ne ea hc exo_tup) (ne_of_none hc fresh)]
          exact hc
      · rw [upd_same] at q
        cases q
        exact exd_ok hn (relO_put (fs := []) ry fun _ => True.intro)
    · rw [upd_same] at q
      cases q
      exact exo_ok hx
end
/-- the class at C, its __init__: super().__init__(text); self.fl = its argument -/
structure XIni (P : Program) (K : PySem.W.Frag) (mg : Str → Option Value) (C : Addr) (fl : Str) : Prop where
  ex : ∃ (fI cda cc : Addr) (name qual : Str) (params : Arguments) (scope : Scope) (dV kV doc pm ct : Value) (an : Option Addr) (tx y : Str) (j : Nat) (p0 p1 p2 p3 p4 p5 p6 p7 p8 p9 : Pos),
    let body : List Stmt := [.Expr (.Call (.Attribute (.Call (.Name "super" p0) [] [] p1) "__init__" p2) [.Constant (.str tx) j p3] [] p4) p5, .Assign [.Attribute (.Name "self" p6) fl p7] (.Name y p8) p9]
    let fd := PySem.W.ksFn name qual params body scope dV kV doc pm an (.ref cda) ct cc
    XI.Ini P K mg C fI cda cc fd qual scope y fl ∧ (∃ oc od osl, K.lookup fI = some ⟨oc, od, .func fd, osl⟩) ∧ (∀ us : List Value, us.length = 2 → bindArgs fd ⟨us, []⟩ = pure ((["self", y] : List Str).zip us)) ∧ y ≠ "self" ∧ (y == ("__debug__" : Str)) = false ∧
    PySem.W.findIn K (.ref C) "__init__" = some (some (.ref fI)) ∧ PySem.W.typeIn K (.ref fI) = some (.type "function") ∧
    ∀ L : Addr, swapsWith (.Call (.Attribute (.Call (.Name "super" p0) [] [] p1) "__init__" p2) [.Constant (.str tx) j p3] [] p4) none p5.line (PySem.W.ksEnv qual scope L fI (.ref cda) cc) = pure false ∧ interactive (PySem.W.ksEnv qual scope L fI (.ref cda) cc) = false ∧
      swapsWith (.Name y p8) (some (.Attribute (.Name "self" p6) fl p7)) p9.line (PySem.W.ksEnv qual scope L fI (.ref cda) cc) = pure false ∧
      (∃ pl : Sem Bool, eval (.Call (.Attribute (.Call (.Name "super" p0) [] [] p1) "__init__" p2) [.Constant (.str tx) j p3] [] p4) (PySem.W.ksEnv qual scope L fI (.ref cda) cc) = (do
        let ov ← attributeBase (.Call (.Name "super" p0) [] [] p1) "__init__" (PySem.W.ksEnv qual scope L fI (.ref cda) cc) (eval (.Call (.Name "super" p0) [] [] p1) (PySem.W.ksEnv qual scope L fI (.ref cda) cc))
        standAt p2.atName
        let (fx, first) ← holding [ov] (getMethod ov "__init__" pl)
        callWith p4 fx first (backTo p4 (starEach [.Constant (.str tx) j p3] (PySem.W.ksEnv qual scope L fI (.ref cda) cc))) [])) ∧
      backTo p4 (starEach [.Constant (.str tx) j p3] (PySem.W.ksEnv qual scope L fI (.ref cda) cc)) = [(false, eval (.Constant (.str tx) j p3) (PySem.W.ksEnv qual scope L fI (.ref cda) cc))]
/-- the reading of C(e) -/
def tXi (C : Addr) (fl : Str) (te : TE) : L2.St → Hp → XK → Prop := fun σ H Q => te σ H fun v H1 => ∀ d, H1 d = none → Q (.ref C) (some d) (upd H1 d (.xd [(fl, v)]))
theorem del_upd {H1 : Hp} {a dx : Addr} {fl : Str} {v : V} {o1 o2 : HO} (hn : H1 a = none) : upd (del (upd (upd (upd H1 a o1) dx (exd dx [(fl, v)])) a o2) a) dx (.xd [(fl, v)]) = upd H1 dx (.xd [(fl, v)]) := by
  funext b
  rcases Nat.decEq b dx with nd | rfl
  · rw [upd_ne nd, upd_ne nd]
    rcases Nat.decEq b a with na | rfl
    · rw [del_ne na, upd_ne na, upd_ne nd, upd_ne na]
    · rw [del_same, hn]
  · rw [upd_same, upd_same]
theorem pmk_xi {X : Cx} {x : Str} {C : Addr} {fl : Str} {e : Expr} {te : TE} {k : Nat} {p pos : Pos} (S : XIni X.prog X.K X.mg C fl) (hr : Room (k + 1) X.A) (hg : Gl X x) (hm : X.mg x = some (.ref C)) (he : PE X e te)
    (hdb : (x == ("__debug__" : Str)) = false := by decide) (hst : starEach [e] X.env = [(false, eval e X.env)] := by rfl) : PMk X (.Call (.Name x p) [e] [] pos) (tXi C fl te) := by
  intro pins s σ H Q I h
  obtain ⟨fI, cda, cc, name, qual, params, scope, dV, kV, doc, pm, ct, an, tx, y, j, p0, p1, p2, p3, p4, p5, p6, p7, p8, p9, ini, lf, hbind, hys, hyd, iC, tI, more⟩ := S.ex
  have T := ini.ox
  obtain ⟨nm, q, N, bs, bm, sn, sub, ab, col, dd, k0, k1, k2, k3, k5, hC, hbm⟩ := T.cls
  refine wpAny_Call_Name_kw (ld_glob I hg hm ?_ hdb)
  have ha : PA X [e] (tCons te tNil) := pa_cons he pa_nil hst
  refine PySem.W.callWith_K (h₀ := X.base) I.ok.mod.kin T.kC (thn (ha.run pos pins s σ H (fun vs H1 => match vs with | [v] => ∀ d, H1 d = none → Q (.ref C) (some d) (upd H1 d (.xd [(fl, v)])) | _ => False) I h) fun us s1 hh => ?_) hst rfl
  obtain ⟨vs, H1, I1, r1, q1⟩ := hh
  cases vs with
  | nil => exact q1.elim
  | cons v vt =>
    cases vt with
    | cons _ _ => exact q1.elim
    | nil =>
      cases r1 with
      | cons rv rn =>
        rename_i u us'
        cases rn
        refine ⟨I1.kIn, ?_⟩
        show wpAny _ _ (call (.ref C) [u]) _ _ _
        obtain ⟨hp, g, dr, tk, os⟩ := s1
        have hsz : hp.objs.size ≤ hp.objs.size + 1 := Nat.le_succ _
        have hn : H1 (hp.objs.size + 1) = none := I1.hok.fresh hsz
        have kk : ∀ b o, hp.get? b = some o → ((hp.push (PySem.W.kdv_tup [u])).push (PySem.HandSPX.excO C hp.objs.size)).get? b = some o := fun b o z => Heap.get?_push_of_some _ (Heap.get?_push_of_some _ z)
        have hget : ((hp.push (PySem.W.kdv_tup [u])).push (PySem.HandSPX.excO C hp.objs.size)).get? (hp.objs.size + 1) = some (PySem.HandSPX.excO C hp.objs.size) := by heap_get
        have I2 : Inv X pins σ (upd H1 (hp.objs.size + 1) (exo (hp.objs.size + 1) C none)) ⟨(hp.push (PySem.W.kdv_tup [u])).push (PySem.HandSPX.excO C hp.objs.size), g, dr, tk, os⟩ := I1.laid (t' := tk) (o := exo (hp.objs.size + 1) C none) kk hsz (exo_ok hget)
        obtain ⟨mb, b1, b2⟩ := I1.mod.blt
        refine wpAny_call (PySem.HandSPX.call_own PySem.F.excBase_ValueError (fun Y => PySem.HandSPX.refsVE_contains Y bm hbm) (I1.kIn _ _ hC) (PySem.W.looks_findIn I1.kIn iC) (fun self => PySem.W.bind_fn I1.kIn self tI) (by show 1 ≤ sizeLine; rw [sizeLine_eq]; omega) ?_)
        refine XI.init_run (s := ⟨(hp.push (PySem.W.kdv_tup [u])).push (PySem.HandSPX.excO C hp.objs.size), g, dr, tk, os⟩) (base := X.base) (x := hp.objs.size + 1) (u := u) (t0 := hp.objs.size) rfl ini lf (hr.make C [u] []).depth I2.nolimit I.ok.mod.kin I2.bk (Heap.get?_none_of_le (Nat.le_trans (Nat.le_trans I1.ok.bsz I1.sz) hsz)) I.ok.mod.glob b1 ((b2 "super" (by decide)).trans rfl) hget (.of_eq (hbind [.ref (hp.objs.size + 1), u] rfl)) hys hyd
          (fun L => (more L).1) (fun L => (more L).2.1) (fun L => (more L).2.2.1) (fun L => (more L).2.2.2.1) (fun L => (more L).2.2.2.2) fun h5 tk5 dx t' k5 dn dne hx5 hn5 => ?_
        have ea : (upd H1 (hp.objs.size + 1) (exo (hp.objs.size + 1) C none)) (hp.objs.size + 1) = some (exo (hp.objs.size + 1) C none) := upd_same
        obtain ⟨un, hok⟩ := xi_un (fs := frs X.stack) (ex := []) I2.hok ea k5 dn dne hx5 hn5 rv
        have hd1 : H1 dx = none := by
          have z := I2.hok.fresh dn
          rw [upd_ne dne] at z
          exact z
        refine ⟨rfl, mk_end (a := hp.objs.size + 1) (C := C) (d := dx) (raises_own T.exC T.tyC) I1 hsz kk un hok rfl I1.bare upd_same (by rw [upd_ne dne, upd_same]) hd1 ?_⟩
        rw [del_upd hn]
        exact q1 dx hd1
end Dp
end

section
set_option Elab.async false
set_option linter.all false
set_option maxRecDepth 100000
set_option maxHeartbeats 4000000
/-! try with several clauses, each with a name or without. -/
namespace Dp
open PySem PySem.Spec PyProof.Rows L2
structure Clz where
  c : Value
  nm : Option (Nat × Str)
  ts : Addr → Value → Option Addr → TS
def offD (i : Nat) (D : Ends) : Ends := { nx := fun σ H => D.nx (σ.set i none) H, rt := D.rt, bk := fun σ H => D.bk (σ.set i none) H, ct := fun σ H => D.ct (σ.set i none) H }
def wClz (K : PySem.W.Frag) (Wout : WX) (D : Ends) : List Clz → WX
  | [] => Wout
  | k :: r => fun cls d σ H => ∃ b, PySem.W.exmOne K cls k.c = some b ∧ (b = true → ∀ a, H a = none → match k.nm with
      | none => k.ts a cls d D σ H
      | some p => k.ts a cls d (offD p.1 D) (σ.set p.1 (some (.ref a))) H) ∧ (b = false → wClz K Wout D r cls d σ H)
inductive ClOk (X : Cx) : List ExceptHandler → List Clz → Prop
  | nil : ClOk X [] []
  | cons {x : Str} {np pos' : Pos} {b₀ : Stmt} {suite : List Stmt} {hds : List ExceptHandler} {k : Clz} {l : List Clz} {n : Option Str} (en : n = k.nm.map (·.2)) (hc : Names X x k.c) (hn : ∀ p, k.nm = some p → X.N[p.1]? = some p.2 ∧ X.env.kindOf p.2 = some .local)
      (hsu : ∀ (a : Addr) (oe : Obj) (cls : Value) (d : Option Addr) (pn : List (Addr × Obj)), Zc cls d oe → (∃ vs, oe.data = .fields vs) → PSs (X.suite a ((a, oe) :: pn)) (b₀ :: suite) (k.ts a cls d)) (r : ClOk X hds l) : ClOk X (.ExceptHandler (some (.Name x np)) n (b₀ :: suite) pos' :: hds) (k :: l)
section
variable {X : Cx} {pins : List (Addr × Obj)} {σ : L2.St} {H : Hp} {D : Ends} {a : Addr} {cls : Value} {d : Option Addr} {Wout : WX} {sv : Shared} {g : Heap}
theorem clz_name {x : Str} {c : Value} {np : Pos} {oe : Obj} {pn : List (Addr × Obj)} {T : Value → Shared → Prop} {E : Value → Shared → Prop} (hc : Names X x c) (S : Inv (X.suite a ((a, oe) :: pn)) [] σ H { sv with heap := g }) (q : T c { sv with heap := g }) :
    wpAny (model X.prog X.w) (X.A.mark (some (.ref a))) (eval (.Name x np) X.env) T E { sv with heap := g } := by
  obtain ⟨hg, hdb, hm | ⟨hm, hv, hnn⟩⟩ := hc
  · exact ld_glob (X := X.suite a ((a, oe) :: pn)) S hg hm q hdb
  · exact ld_blt (X := X.suite a ((a, oe) :: pn)) S hg hm hv q hnn hdb
/-- the end of a suite -/
theorem clz_end {oe : Obj} {f : Flow} {s6 : Shared} (ok : X.Ok) (h : SP (X.suite a ((a, oe) :: (X.pn ++ pins))) [] D f s6) : SP X pins D f s6 := by
  cases f with
  | ret u => exact let ⟨v, σ6, H6, S6, r6, q6⟩ := h; ⟨v, σ6, H6, S6.unsuite ok, r6, q6⟩
  | next => exact let ⟨σ6, H6, S6, q6⟩ := h; ⟨σ6, H6, S6.unsuite ok, q6⟩
  | brk => exact let ⟨σ6, H6, S6, q6⟩ := h; ⟨σ6, H6, S6.unsuite ok, q6⟩
  | cont => exact let ⟨σ6, H6, S6, q6⟩ := h; ⟨σ6, H6, S6.unsuite ok, q6⟩
/-- .. whose name goes -/
theorem clz_endN {oe : Obj} {f : Flow} {s6 : Shared} {i : Nat} {n : Str} {pos : Pos} {E : Value → Shared → Prop} (ok : X.Ok) (hN : X.N.Nodup) (hi : X.N[i]? = some n) (hl : X.env.kindOf n = some .local) (h : SP (X.suite a ((a, oe) :: (X.pn ++ pins))) [] (offD i D) f s6) :
    wpAny (model X.prog X.w) X.A (do bindName X.env n .none; unbindBehindTheSuite X.env n pos) (fun _ s7 => SP X pins D f s7) E s6 := by
  cases f with
  | ret u => exact let ⟨v, σ6, H6, S6, r6, q6⟩ := h; gone_ok (S6.unsuite ok) hN hi hl fun s7 J7 => ⟨v, _, H6, J7, r6, q6⟩
  | next => exact let ⟨σ6, H6, S6, q6⟩ := h; gone_ok (S6.unsuite ok) hN hi hl fun s7 J7 => ⟨_, H6, J7, q6⟩
  | brk => exact let ⟨σ6, H6, S6, q6⟩ := h; gone_ok (S6.unsuite ok) hN hi hl fun s7 J7 => ⟨_, H6, J7, q6⟩
  | cont => exact let ⟨σ6, H6, S6, q6⟩ := h; gone_ok (S6.unsuite ok) hN hi hl fun s7 J7 => ⟨_, H6, J7, q6⟩
theorem try_clz {body : List Stmt} {hd : ExceptHandler} {hds : List ExceptHandler} {l : List Clz} {pos : Pos} {tb : WX → TS} (st : X.stack = X.env :: X.outer) (fr : X.env.frame = some X.env.locals) (hN : X.N.Nodup) (tk : Takes X Wout)
    (hb : ∀ (W : WX) (pn : List (Addr × Obj)) (xe : Value → Shared → Prop), Takes (X.tr pn xe) W → PassesOwn (model X.prog X.w) X.A X.env xe → PSs (X.tr pn xe) body (tb W)) (cl : ClOk X (hd :: hds) l) : PS X (.Try body (hd :: hds) [] [] pos) (fun D σ H => tb (wClz X.K Wout D l) D σ H) := by
  refine ⟨fun pins s σ H D I h => ?_⟩
  have ok := I.ok
  have frames : X.A.frames = some (X.env :: X.outer) := ok.frames.trans (congrArg some st)
  refine wpAny_Try_except (wpAny_mono ((hb (wClz X.K Wout D l) (X.pn ++ pins) (fun e s₁ => wpAny (model X.prog X.w) X.A (noteFrame e X.env) (fun _ s₂ => wpAny (model X.prog X.w) X.A (setFlight e none) (fun _ s₃ => wpAny (model X.prog X.w) X.A (handleBy e X.env (hd :: hds)) (SP X pins D) X.xe s₃) X.xe s₂) X.xe s₁) (fun u sv xx => ?_) PassesOwn.looking).run [] s σ H D (I.toTry _) h) (fun f s1 hsp => ?_) fun e s1 he => he)
  · obtain ⟨a, B, sI, pins', σ', H', cls, d, rfl, J', nb, up, sky, na, os, ag, w⟩ := xx
    have J : Inv X pins σ' H' sI := J'.ofTry ok
    rw [st] at sky
    show wpAny (model X.prog X.w) X.A (noteFrame (.ref a) X.env) _ _ _
    refine Sky.land Zc.steady frames fr sky fun g3 fl3 up3 => ?_
    have J3 : Inv X pins σ' H' { sv with heap := g3 } := J.landed nb fl3.1 (up.trans up3) os ag
    obtain ⟨oe3, vs3, he3, hz3, hd3⟩ := fl3.there
    have off : a ∉ frs (X.env :: X.outer) := fun hm => by
      obtain ⟨_, o', e', hnf⟩ := fl3.2.2.1.mem hm
      cases he3.symm.trans e'
      exact hnf _ hd3
    have nL : a ≠ X.env.locals := fun z => off (List.mem_filterMap.mpr ⟨X.env, List.mem_cons_self, fr.trans (congrArg some z.symm)⟩)
    have nF : a ∉ X.fs := fun hm => by
      obtain ⟨e, he, q⟩ := List.mem_filterMap.mp hm
      exact off (List.mem_filterMap.mpr ⟨e, List.mem_cons_of_mem _ he, q⟩)
    have S3 := J3.suite he3 hd3 na nL nF
    have all : ∀ {hs : List ExceptHandler} {ks : List Clz}, ClOk X hs ks → wClz X.K Wout D ks cls d σ' H' → wpAny (model X.prog X.w) X.A (handleBy (.ref a) X.env hs) (SP X pins D) X.xe { sv with heap := g3 } := by
      intro hs ks hk
      induction hk with
      | nil =>
        intro w
        obtain ⟨k1, k2, k3, oe, vs, T, oT, ts', he, hz, hdd, h1, hr⟩ := id fl3
        refine wpAny_handleBy_nil ?_
        unfold PySem.passOn
        refine wpAny_bind (wpAny_field he hdd h1 ?_)
        rw [if_neg (show ¬ ((Value.ref T == Value.none) = true) from by simp)]
        have out : wpAny (model X.prog X.w) X.A (setFlight (.ref a) X.env.frame) (fun _ s4 => wpAny (model X.prog X.w) X.A (throw (.ref a) : Sem Flow) (SP X pins D) X.xe s4) X.xe { sv with heap := g3 } := by
          rw [fr]
          exact HandSPX.setFlight_upZ fl3 fun g4 hh4 up4 => wpAny_throw (tk _ _ ⟨a, B, sI, pins, σ', H', cls, d, rfl, J, nb, (up.trans up3).trans up4, .inr (.inr (by rw [st]; exact hh4)), na, os, ag, w⟩)
        first
          | exact wpAny_bind (wpAny_pure (wpAny_bind out))
          | exact wpAny_bind out
      | @cons x np pos' b₀ suite hds2 k l2 n en hc hn hsu r ih =>
        intro w
        obtain ⟨b, hb1, hyes, hno⟩ := w
        refine wpAny_handleBy_cons (codeAny_handlers_test (clz_name hc S3 ?_)) (by intro q; cases q)
        have LT : PySem.W.Looks (model X.prog X.w) g3 (typeOf (.ref a)) cls := fun A Q E s kp q => wpAny_typeOf_ref (kp _ _ he3) (by rw [hz3.1]; exact q)
        refine (PySem.W.exm_one (M := model X.prog X.w) J3.kIn LT hb1).here ?_
        cases b with
        | false => exact ih (hno rfl)
        | true =>
          have yes := hyes rfl a na
          cases e : k.nm with
          | none =>
            rw [e] at en yes
            subst en
            refine codeAny_handlers_suite (HandSPX.lands_againZ fl3 fun g4 fl4 up4 => ?_)
            obtain ⟨oe4, vs4, he4, hz4, hd4⟩ := fl4.there
            have S4 := (show Inv X pins σ' H' { sv with heap := g4 } from J.landed nb fl4.1 ((up.trans up3).trans up4) os ag).suite he4 hd4 na nL nF
            exact wpAny_mono ((hsu a oe4 cls d (X.pn ++ pins) hz4 ⟨_, hd4⟩).run [] _ _ H' _ S4 yes) (fun f s6 hsp => by have := clz_end ok hsp; cases f <;> exact this) fun _ _ z => z.elim
          | some p =>
            rw [e] at en yes
            subst en
            obtain ⟨hi, hl⟩ := hn p e
            refine codeAny_handlers_suite_as (HandSPX.lands_againZ fl3 fun g4 fl4 up4 => ?_)
            obtain ⟨oe4, vs4, he4, hz4, hd4⟩ := fl4.there
            have S4 := (show Inv X pins σ' H' { sv with heap := g4 } from J.landed nb fl4.1 ((up.trans up3).trans up4) os ag).suite he4 hd4 na nL nF
            refine store_ok (X := X.suite a ((a, oe4) :: (X.pn ++ pins))) (v := .ref a) S4 hN hi (.inl hl) rfl (fun s5 S5 => ?_) (.inr hl)
            exact wpAny_mono ((hsu a oe4 cls d (X.pn ++ pins) hz4 ⟨_, hd4⟩).run [] s5 _ H' _ S5 yes) (fun f s6 hsp => by have := clz_endN (E := X.xe) (pos := pos') ok hN hi hl hsp; cases f <;> exact this) fun _ _ z => z.elim
    exact all cl w
  · cases f with
    | next => exact let ⟨σ', H', J', q⟩ := hsp; wpAny_execs_nil ⟨σ', H', J'.ofTry ok, q⟩
    | ret u => exact let ⟨v, σ', H', J', r, q⟩ := hsp; ⟨v, σ', H', J'.ofTry ok, r, q⟩
    | brk => exact let ⟨σ', H', J', q⟩ := hsp; ⟨σ', H', J'.ofTry ok, q⟩
    | cont => exact let ⟨σ', H', J', q⟩ := hsp; ⟨σ', H', J'.ofTry ok, q⟩
end
end Dp
end

section
set_option Elab.async false
set_option linter.all false
set_option maxRecDepth 100000
set_option maxHeartbeats 4000000
/-! Raising, catching, moving: in the small syntax. -/
namespace Dp
open PySem PySem.Spec PyProof.Rows L2
/-- what the text says of the exception classes -/
structure Xx (G : Prog) (P : Program) (K : PySem.W.Frag) (mg : Str → Option Value) : Prop where
  ini : ∀ p ∈ G.exs, XIni P K mg (He.ga K p.1) p.2 ∧ mg p.1 = some (.ref (He.ga K p.1)) ∧ XfC K (He.ga K p.1) ∧ PySem.W.findIn K (.ref (He.ga K p.1)) p.2 = some none
  mat : ∀ p ∈ G.exm, PySem.W.exmOne K (.ref (He.ga K p.1.1)) (.ref (He.ga K p.1.2)) = some p.2 ∧ mg p.1.2 = some (.ref (He.ga K p.1.2))
section
variable {X : Cx} {Wx : WX} {W0 : Wd} {H0 : Hp}
theorem d_rse {c fl : Str} {a : Expr} {k : Nat} {p pos pos' : Pos} {f : Sl → Mu → R SV} (S : XIni X.prog X.K X.mg (He.ga X.K c) fl) (hr : Room (k + 1) X.A) (hg : Gl X c) (hm : X.mg c = some (.ref (He.ga X.K c))) (hc : X.calm = true) (tk : Takes X Wx) (he : PE X a (tS X Wx f)) (hdb : (c == ("__debug__" : Str)) = false) (hst : starEach [a] X.env = [(false, eval a X.env)]) :
    PS X (.Raise (some (.Call (.Name c p) [a] [] pos)) none pos') (tD X Wx W0 H0 fun s m => (f s m).st s fun x m1 => .ex ⟨c, [fl], [x.fz]⟩ s m1) := by
  refine ps_imp (ps_raise hc tk (pmk_xi S hr hg hm he hdb hst)) fun D σ H ⟨Wl, W, s, m, h, o⟩ => st_runz f h o fun b m1 W1 v H1 h1 p1 r o1 d hd => ?_
  obtain ⟨x2, p2⟩ := h1.h.toSt0.laid hd (.xd [(fl, v)])
  exact o1 _ σ (some d) _ (h1.step p2 x2) (.inr ⟨d, [v], rfl, upd_same, rfl, Reps.one (Rep.mono p2.le _ _ r)⟩)
theorem d_mov {i j : Nat} {x y : Str} {p pos pos' : Pos} (hN : X.N.Nodup) (hx : X.N[i]? = some x) (hl : L2.Loc X.env.scope x) (hk : X.fn x = true ∨ X.env.scope.names.lookup x = some .local) (hv : PE X (.Name y pos') (tVar j)) :
    PS X (.Assign [.Name x p] (.Name y pos') pos) (tD X Wx W0 H0 fun s m => if i = j then .bad else (match s[j]? with | some (some (.own c)) => .nx ((s.set j none).set i (some (.own c))) m | _ => .bad)) := by
  refine ps_imp (ps_set hN hx hl hv rfl hk) fun D σ H ⟨Wl, W, s, m, h, o⟩ => ?_
  revert o
  dsimp only
  split
  · exact fun o => o.elim
  · rename_i hij
    split
    · rename_i c e
      intro o
      obtain ⟨a, q, ow⟩ := h.h.own j c e
      have jl : j < s.length := (List.getElem?_eq_some_iff.mp e).1
      have h2 : HoldF X.K X.mg W0 H0 Wl W (s.set j none) m σ H := by
        refine ⟨h.h.drop j, h.st, fun i' c' b e1 e2 => ?_, h.le⟩
        by_cases hj : j = i'
        · subst hj
          rw [List.getElem?_set_self jl] at e1
          cases e1
        · rw [List.getElem?_set_ne hj] at e1
          exact h.of i' c' b e1 e2
      refine ⟨_, q, o W _ H (h2.putO i ow (h.of j c a e q) fun j' c' e1 z => ?_)⟩
      by_cases hj : j = j'
      · subst hj
        rw [List.getElem?_set_self jl] at e1
        cases e1
      · rw [List.getElem?_set_ne hj] at e1
        exact hj (h.h.dis j j' c c' a e e1 q z)
    · exact fun o => o.elim
/-! ### the clauses -/
def itE (a : Addr) (cls : Value) (d : Option Addr) (C : Addr) (i : Nat) : HI → TE
  | .str y => tC (.str y)
  | .int n => tC (.int n)
  | .fld f => tXf a cls d C f (tVar i)
def itA (a : Addr) (cls : Value) (d : Option Addr) (C : Addr) (i : Nat) : List HI → TA
  | [] => tNil
  | h :: l => tCons (itE a cls d C i h) (itA a cls d C i l)
theorem lookup_zip {K : PySem.W.Frag} {mg : Str → Option Value} {W : Wd} {f : Str} {dd : Dp.D} : ∀ {ns : List Str} {ds : List Dp.D} {vs : List V}, Reps K mg W ds vs → ns.length = ds.length → (ns.zip ds).lookup f = some dd → ∃ v, (ns.zip vs).lookup f = some v ∧ Rep K mg W dd v
  | [], _, _, _, _, h => by cases h
  | n :: ns, [], _, _, hl, _ => by simp at hl
  | n :: ns, e :: ds, vs, ⟨v, t, ev, rv, rt⟩, hl, h => by
    subst ev
    rw [List.zip_cons_cons, List.lookup_cons] at h ⊢
    cases q : f == n with
    | true =>
      rw [q] at h
      cases h
      exact ⟨v, rfl, rv⟩
    | false =>
      rw [q] at h
      exact lookup_zip rt (by simpa using hl) h
theorem itA_ok {K : PySem.W.Frag} {mg : Str → Option Value} {W : Wd} {a : Addr} {c : Str} {x : Exn} {d : Option Addr} {i : Nat} {σ : L2.St} {H : Hp} {cc : Str} (hc : cc = c) (hH : Same W.Hf H) (ea : ExAt K mg W x d) {l : List HI} {ds : List Dp.D} (hσ : ∀ f, HI.fld f ∈ l → σ[i]? = some (some (.ref a))) (hl : hiL x c l = some ds) :
    ∃ vs, Reps K mg W ds vs ∧ ∀ Q : List V → Hp → Prop, Q vs H → itA a (.ref (He.ga K x.c)) d (He.ga K c) i l σ H Q := by
  induction l generalizing ds with
  | nil =>
    cases hl
    exact ⟨[], rfl, fun Q q => q⟩
  | cons it l ih =>
    unfold hiL at hl
    cases e1 : hiV x c it with
    | none => rw [e1] at hl; cases hl
    | some d1 =>
      rw [e1] at hl
      cases e2 : hiL x c l with
      | none => rw [e2] at hl; cases hl
      | some dl =>
        rw [e2] at hl
        cases hl
        obtain ⟨vs, r, k⟩ := ih (fun f hf => hσ f (List.mem_cons_of_mem _ hf)) e2
        cases it with
        | str y =>
          cases e1
          exact ⟨.str y :: vs, ⟨_, _, rfl, rfl, r⟩, fun Q q => k _ q⟩
        | int n =>
          cases e1
          exact ⟨.int n :: vs, ⟨_, _, rfl, rfl, r⟩, fun Q q => k _ q⟩
        | fld f =>
          have e1' : (if x.c = c then (x.ns.zip x.ds).lookup f else none) = some d1 := e1
          split at e1'
          · rename_i hxc
            rcases ea with ⟨n0, _, _⟩ | ⟨dd, us, rfl, hd, hn, ru⟩
            · rw [n0] at e1'
              cases e1'
            · obtain ⟨v, hv, rv⟩ := lookup_zip ru hn e1'
              exact ⟨v :: vs, ⟨_, _, rfl, rv, r⟩, fun Q q => ⟨_, hσ f (List.mem_cons_self ..), rfl, by rw [hxc], dd, _, v, rfl, hH _ _ hd, hv, k _ q⟩⟩
          · cases e1'
def tSu (a : Addr) (cls : Value) (d : Option Addr) (C : Addr) (i : Nat) : HS → TS
  | .retL l => fun D σ H => itA a cls d C i l σ H fun vs H1 => vs.length ≤ sizeLine ∧ ∀ p, H1 p = none → D.rt (.ref p) (upd H1 p (.lst vs))
  | .retB b => fun D _ H => D.rt (.bl b) H
/-- a clause without a name reads no field -/
def flB (h : Hc) : Bool := match h.nm, h.su with
  | none, .retL l => l.all fun i => match i with | .fld _ => false | _ => true
  | _, _ => true
def clzOf (X : Cx) (h : Hc) : Clz := ⟨.ref (He.ga X.K h.cls), h.nm.map fun i => (i, (X.N[i]?).getD ""), fun a cls d => tSu a cls d (He.ga X.K h.cls) (h.nm.getD 0) h.su⟩
theorem hds_ok {G : Prog} (xx : Xx G X.prog X.K X.mg) {D : Ends} {x : Exn} : ∀ {hs : List Hc} {Wl W : Wd} {s : Sl} {m : Mu} {σ : L2.St} {H : Hp} {d : Option Addr}, (hs.all flB) = true → OutS X.K X.mg Wx W0 H0 Wl (hdS G x hs s m) D → HoldF X.K X.mg W0 H0 Wl W s m σ H → ExAt X.K X.mg W x d →
    wClz X.K Wx D (hs.map (clzOf X)) (.ref (He.ga X.K x.c)) d σ H
  | [], Wl, W, s, m, σ, H, d, _, o, h, ea => o W σ d H h ea
  | hc :: hs, Wl, W, s, m, σ, H, d, hf, o, h, ea => by
    rw [List.all_cons, Bool.and_eq_true] at hf
    unfold hdS at o
    cases el : G.exm.lookup (x.c, hc.cls) with
    | none => rw [el] at o; exact o.elim
    | some b =>
      rw [el] at o
      refine ⟨b, (xx.mat _ (mem_of_lookup el)).1, fun hb a na => ?_, fun hb => ?_⟩
      · subst hb
        dsimp only at o
        split at o
        · rename_i hi
          have fin : ∀ (i : Nat) (σ2 : L2.St), (∀ l f, hc.su = .retL l → HI.fld f ∈ l → σ2[i]? = some (some (.ref a))) → ∀ D2 : Ends, D2.rt = D.rt → tSu a (.ref (He.ga X.K x.c)) d (He.ga X.K hc.cls) i hc.su D2 σ2 H := fun i σ2 hs2 D2 hD => by
            cases esu : hc.su with
            | retB bb =>
              rw [esu] at o
              show D2.rt _ _
              rw [hD]
              exact o W (.bl bb) H h.h.toSt0 h.st rfl
            | retL l =>
              rw [esu] at o
              dsimp only at o
              cases eh : hiL x hc.cls l with
              | none => rw [eh] at o; exact o.elim
              | some ds =>
                rw [eh] at o
                dsimp only at o
                split at o
                · rename_i hz
                  obtain ⟨vs, r, k⟩ := itA_ok (i := i) (σ := σ2) (cc := hc.cls) rfl h.h.sub ea (fun f hf2 => hs2 l f esu hf2) eh
                  refine k _ ⟨by rw [← r.length]; exact hz, fun p hp => ?_⟩
                  rw [hD]
                  obtain ⟨x2, p2, nf, nt⟩ := h.h.toSt0.made hp (.lst vs)
                  exact o W (.ref p) _ x2 (h.st.trans h.h.toSt0 p2) (rb_sv W0 H0 W H m W _ (.own (.lst ds)) _ h.h.toSt0 h.st p2 ⟨p, rfl, ⟨⟨vs, upd_same, r⟩, nf, nt⟩, hp⟩)
                · exact o.elim
          show match (clzOf X hc).nm with | none => (clzOf X hc).ts a (.ref (He.ga X.K x.c)) d D σ H | some p => (clzOf X hc).ts a (.ref (He.ga X.K x.c)) d (offD p.1 D) (σ.set p.1 (some (.ref a))) H
          cases en : hc.nm with
          | none =>
            have e1 : (clzOf X hc).nm = none := by show Option.map _ hc.nm = none; rw [en]; rfl
            rw [e1]
            refine fin _ σ (fun l f e2 e3 => ?_) D rfl
            have q := hf.1
            unfold flB at q
            rw [en, e2] at q
            have q2 := List.all_eq_true.mp q _ e3
            cases q2
          | some i =>
            have e1 : (clzOf X hc).nm = some (i, (X.N[i]?).getD "") := by show Option.map _ hc.nm = _; rw [en]; rfl
            rw [e1]
            have e2 : hc.nm.getD 0 = i := by rw [en]; rfl
            have hi2 : decide (i < s.length) = true := by unfold nmOk at hi; rw [en] at hi; exact hi
            show tSu a _ d (He.ga X.K hc.cls) (hc.nm.getD 0) hc.su (offD i D) (σ.set i (some (.ref a))) H
            rw [e2]
            exact fin i _ (fun _ _ _ _ => List.getElem?_set_self (by rw [← h.h.slen]; exact of_decide_eq_true hi2)) (offD i D) rfl
        · exact o.elim
      · subst hb
        exact hds_ok xx hf.2 o h ea
end
end Dp
end

section
set_option Elab.async false
set_option linter.all false
set_option maxRecDepth 100000
set_option maxHeartbeats 4000000
/-! The deep layer, part 19: what is matched, holds (statements, defs). -/
namespace Dp
open PySem PySem.Spec PyProof.Rows L2
/-- is the old value let go within the comprehension? -/
def swB (c : MC) (x : Str) (py : Pos) : Expr → Bool
  | .ListComp _ _ scope pos => (match c.sc.names.lookup x with | some .local => true | _ => false) && (py.line == pos.line && !(scope.names.any fun (n, k) => n == x && (k == .local || k == .cell)))
  | _ => false
def noSD : Expr → Bool
  | .SetComp .. => false
  | .DictComp .. => false
  | _ => true
def noLC : Expr → Bool
  | .ListComp .. => false
  | .SetComp .. => false
  | .DictComp .. => false
  | _ => true
def noTup : Expr → Bool
  | .Tuple .. => false
  | _ => true
section
variable (G : Prog)
/-- an except clause -/
def mIts (h : Hc) (c : MC) : List HI → List Expr → Bool
  | [], [] => true
  | .str y :: l, .Constant (.str z) _ _ :: r => decide (y = z) && mIts h c l r
  | .int n :: l, .Constant (.int z) _ _ :: r => decide (n = z) && mIts h c l r
  | .fld f :: l, .Attribute (.Name y _) g _ :: r => decide (f = g) && (decide ((h.cls, f) ∈ G.exs) && ((match h.nm with | some i => nmB c y i | none => false) && mIts h c l r))
  | _, _ => false
def mSu (h : Hc) (c : MC) (st : Stmt) : Bool := match h.su, st with
  | .retL l, .Return (some (.List es _)) _ => mIts G h c l es
  | .retB b, .Return (some (.Constant (.bool k) _ _)) _ => decide (b = k)
  | _, _ => false
def nmH (h : Hc) (c : MC) (n : Option Str) : Bool := match h.nm, n with
  | none, none => true
  | some i, some y => decide (c.N[i]? = some y) && (match c.sc.names.lookup y with | some .local => true | _ => false)
  | _, _ => false
def mHs : List Hc → MC → List ExceptHandler → Bool
  | [], _, [] => true
  | h :: hs, c, .ExceptHandler (some (.Name x _)) n [st] _ :: r => decide (x = h.cls) && (glB c.sc x && (!(x == ("__debug__" : Str)) && ((G.exm.any fun p => decide (p.1.2 = h.cls)) && (nmH h c n && (mSu G h c st && mHs hs c r)))))
  | _, _, _ => false
/-- a name stored -/
def mN (c : MC) (i : Nat) : Expr → Bool
  | .Name x _ => decide (c.N[i]? = some x) && locB c x
  | _ => false
mutual
def mS : S → MC → Stmt → Bool
  | .ex e, c, st => (match st with | .Expr a _ => noLC a && mE G e c a | _ => false)
  | .rse cn e, c, st => (match st with | .Raise (some (.Call (.Name x _) [a] [] _)) none _ => decide (x = cn) && (glB c.sc cn && (!(cn == ("__debug__" : Str)) && (noStar a && (mE G e c a && (G.exs.lookup cn).isSome)))) | _ => false)
  | .try_ b hs, c, st => (match st with | .Try body (hd :: hds) [] [] _ => mSs b c body && (hs.all flB && mHs G hs c (hd :: hds)) | _ => false)
  | .mov i j, c, st => (match st with | .Assign [.Name x _] (.Name y _) _ => decide (c.N[i]? = some x) && (locB c x && nmB c y j) | _ => false)
  | .asg t e, c, st => (match st with | .Assign [tg] a _ => mT c t tg && (noSD a && ((match tg with | .Name .. => true | _ => noLC a && noTup a) && mE G e c a)) | _ => false)
  | .asgO i e, c, st => (match st with | .Assign [tg] a _ => mN c i tg && (noSD a && mE G e c a) | _ => false)
  | .asgM i e, c, st => (match st with | .Assign [tg] a _ => mN c i tg && (noSD a && mE G e c a) | _ => false)
  | .aug i o e, c, st => (match st with | .AugAssign tg op a _ => mN c i tg && (decide (op = boOp o) && (decide (o = .add ∨ o = .sub) && mE G e c a)) | _ => false)
  | .om i f es, c, st => (match st with | .Expr (.Call (.Attribute (.Name x _) mn apos) args [] pos) _ => nmB c x i && (decide (mn = Str.ofString (omName f)) && (apos.endLine == pos.line && (decide (args.length < 30) && mEs G es c args))) | _ => false)
  | .omr t i f es, c, st => (match st with | .Assign [tg] (.Call (.Attribute (.Name x _) mn apos) args [] pos) _ => mN c t tg && (nmB c x i && (decide (mn = Str.ofString (omName f)) && (apos.endLine == pos.line && (decide (args.length < 30) && mEs G es c args)))) | _ => false)
  | .seti i b e, c, st => (match st with | .Assign [.Subscript (.Name x _) l _] a _ => nmB c x i && (noSlc l && (mE G b c l && mE G e c a)) | _ => false)
  | .setf i f e, c, st => (match st with | .Assign [.Attribute (.Name x _) f' _] a _ => nmB c x i && (decide (f = f') && mE G e c a) | _ => false)
  | .ret e, c, st => (match st with | .Return (some a) _ => mE G e c a | _ => false)
  | .retS i, c, st => (match st with | .Return (some (.Name x _)) _ => nmB c x i | _ => false)
  | .retN, _, st => (match st with | .Return none _ => true | _ => false)
  | .ife t a b, c, st => (match st with | .If q x y _ => mB G t c q && (mSs a c x && mSs b c y) | _ => false)
  | .for_ t it body _, c, st => (match st with | .For tg iter b [] _ => noSet iter && (mT c t tg && (mI G it c tg iter && mSs body c b)) | _ => false)
  | .whl _ t body _, c, st => (match st with | .While q b [] _ => mB G t c q && mSs body c b | _ => false)
  | .pass, _, st => (match st with | .Pass _ => true | _ => false)
  | .brk, _, st => (match st with | .Break _ => true | _ => false)
  | .cont, _, st => (match st with | .Continue _ => true | _ => false)
  | .never, _, _ => true
  | .gfz _, _, _ => false
  | .gfg _, _, _ => false
def mSs : Ss → MC → List Stmt → Bool
  | .nil, _, l => (match l with | [] => true | _ => false)
  | .cons s r, c, l => (match s with
    | .gfz _ => mSs r c l
    | .gfg _ => mSs r c l
    | _ => (match l with
      | st :: rest => mS s c st && mSs r c rest
      | [] => false))
end
end
section
variable {X : Cx} {Wx : WX} {W0 : Wd} {H0 : Hp}
theorem ps_cast {a : Stmt} {f g : Sl → Mu → SR} (h : PS X a (tD X Wx W0 H0 f)) (k : ∀ s m, g s m = f s m) : PS X a (tD X Wx W0 H0 g) := by
  rw [show g = f from funext fun s => funext fun m => k s m]
  exact h
theorem pss_cast {a : List Stmt} {f g : Sl → Mu → SR} (h : PSs X a (tD X Wx W0 H0 f)) (k : ∀ s m, g s m = f s m) : PSs X a (tD X Wx W0 H0 g) := by
  rw [show g = f from funext fun s => funext fun m => k s m]
  exact h
theorem sw_eq {c : MC} {x : Str} {py : Pos} {a : Expr} {l : Nat} (M : Mat c X) (hk : X.env.scope.kind = .function) (hn : noSD a = true) : swapsWith a (some (.Name x py)) l X.env = pure (swB c x py a) := by
  have hb : X.env.blockKind = .function := by unfold Env.blockKind; rw [hk]; rfl
  cases a <;> try rfl
  · rename_i elt gs scope pos
    unfold swapsWith swB
    have e : X.env.kindOf x = c.sc.names.lookup x := by
      show X.env.scope.names.lookup x = _
      rw [M.sc]
    simp only [hb, e, Expr.pos]
    cases h : c.sc.names.lookup x with
    | none => rfl
    | some k => cases k <;> rfl
  · cases hn
  · cases hn
end
/-- what a body has besides -/
structure XokS (G : Prog) (n : Nat) (X : Cx) (Wx : WX) : Prop extends Xok G n X Wx where
  po : PassesOwn (model X.prog X.w) X.A X.env X.xe
  kind : X.env.scope.kind = .function
  xx : Xx G X.prog X.K X.mg
  stk : X.stack = X.env :: X.outer
  fr : X.env.frame = some X.env.locals
section
variable {G : Prog} {n : Nat} {X : Cx} {Wx : WX} {W0 : Wd} {H0 : Hp} {c : MC}
theorem mN_ok {i : Nat} {a : Expr} (M : Mat c X) (h : mN c i a = true) : ∃ x p, a = .Name x p ∧ X.N[i]? = some x ∧ L2.Loc X.env.scope x ∧ (X.fn x = true ∨ X.env.scope.names.lookup x = some .local) := by
  cases a <;> try (cases h; done)
  rename_i x p
  obtain ⟨h3, h4⟩ := Bool.and_eq_true_iff.mp (show (decide (c.N[i]? = some x) && locB c x) = true from h)
  obtain ⟨l1, l2⟩ := loc_ok M h4
  exact ⟨x, p, rfl, by rw [M.N]; exact of_decide_eq_true h3, l1, l2⟩
/-- name = value -/
theorem asg_name (xs : XokS G n X Wx) (M : Mat c X) {i : Nat} {tg a : Expr} {e : E} {pos : Pos} (ht : mN c i tg = true) (hn : noSD a = true) (he : mE G e c a = true) : PS X (.Assign [tg] a pos) (tAsg (tS X Wx (evE G (callN G n) e)) (gName i)) := by
  obtain ⟨x, p, rfl, h1, h2, h3⟩ := mN_ok M ht
  cases hsw : swB c x p a with
  | false => exact ps_set xs.nd h1 h2 (sE e xs.toXok M he) (by rw [sw_eq M xs.kind hn, hsw]) h3
  | true =>
    cases a <;> try (cases hsw; done)
    rename_i elt gs scope pos2
    have hl : X.env.scope.names.lookup x = some .local := by
      rw [M.sc]
      have q := (Bool.and_eq_true_iff.mp hsw).1
      revert q
      split
      · intro _; assumption
      · intro z; cases z
    cases e <;> try (unfold mE at he; cases he; done)
    rename_i t own it cd e
    unfold mE at he
    split at he
    · rename_i heq
      cases heq
      simp only [Bool.and_eq_true, decide_eq_true_eq] at he
      obtain ⟨g0, g1, g2, g3, g4, g5, g6, g7⟩ := he
      subst g0
      rw [← M.N, ← M.sc] at g2
      refine ps_imp (ps_setLc (wi := tI X Wx (evI G (callN G n) it)) (g := tGT X.K t) (tt := tT X Wx0 (evOB G (callN G n) cd)) (te := tS X Wx0 (evE G (callN G n) e)) xs.calm xs.nd h1 hl (by rw [sw_eq M xs.kind rfl, hsw]) (sI it xs.toXok M g5) (blkOk_by g2)
        (fun s H C cl fp => sT (M.blk s H _ C cl fp) xs.nd xs.calm g4) (fun s H C cl fp => sOB cd (xs.toXok.blk s H _ _ fp) (M.blk s H _ C cl fp) g6) (fun s H C cl fp => sE e (xs.toXok.blk s H _ _ fp) (M.blk s H _ C cl fp) g7) (set_ok g1)) fun D σ H ⟨W, s, m, hs, o⟩ => ?_
      have o : OutG X.K X.mg (SvAt X.K X.mg) Wx W H σ ((evI G (callN G n) it s m).bind fun ds m1 => (lcL (lcF t (own.map (·.2)) (evOB G (callN G n) cd) (evE G (callN G n) e) s) ds [] m1).bind fun r m5 => .ok (.own (.lst r)) m5) (fun v H1 => gName i v σ H1 D.nx) := o
      refine run rb_sv hs o fun ds m1 W1 J H1 _ h1 p1 itk o1 D2 hD => ?_
      exact lc_turns h1 itk (fun i hi => of_decide_eq_true (List.all_eq_true.mp g3 i hi)) o1 D2 hD
    · cases he
/-- the clauses of the text -/
theorem its_ok {h : Hc} {X' : Cx} {a : Addr} {oe : Obj} {cls : Value} {d : Option Addr} {pn : List (Addr × Obj)} {i : Nat} (xx : Xx G X.prog X.K X.mg) (M : Mat c X) (hX : X' = X.suite a ((a, oe) :: pn)) (hz : Zc cls d oe) (hf : ∃ vs, oe.data = .fields vs) (hi : ∀ j, h.nm = some j → j = i) :
    ∀ {l : List HI} {es : List Expr}, mIts G h c l es = true → PA X' es (itA a cls d (He.ga X.K h.cls) i l)
  | [], es, m => by
    cases es with
    | nil => exact pa_nil
    | cons e es => cases m
  | .str y :: l, es, m => by
    cases es with
    | nil => cases m
    | cons e es =>
      cases e <;> try (cases m; done)
      rename_i k j p
      cases k <;> try (cases m; done)
      rename_i z
      obtain ⟨h1, h2⟩ := Bool.and_eq_true_iff.mp (show (decide (y = z) && mIts G h c l es) = true from m)
      rw [of_decide_eq_true h1]
      exact pa_cons pe_str (its_ok xx M hX hz hf hi h2) rfl
  | .int y :: l, es, m => by
    cases es with
    | nil => cases m
    | cons e es =>
      cases e <;> try (cases m; done)
      rename_i k j p
      cases k <;> try (cases m; done)
      rename_i z
      obtain ⟨h1, h2⟩ := Bool.and_eq_true_iff.mp (show (decide (y = z) && mIts G h c l es) = true from m)
      rw [of_decide_eq_true h1]
      exact pa_cons pe_int (its_ok xx M hX hz hf hi h2) rfl
  | .fld f :: l, es, m => by
    cases es with
    | nil => cases m
    | cons e es =>
      cases e <;> try (cases m; done)
      rename_i b g p
      cases b <;> try (cases m; done)
      rename_i y p2
      have m' : (decide (f = g) && (decide ((h.cls, f) ∈ G.exs) && ((match h.nm with | some i => nmB c y i | none => false) && mIts G h c l es))) = true := m
      simp only [Bool.and_eq_true, decide_eq_true_eq] at m'
      obtain ⟨rfl, h2, h3, h4⟩ := m'
      obtain ⟨_, _, q3, q4⟩ := xx.ini _ h2
      cases en : h.nm with
      | none => rw [en] at h3; cases h3
      | some j =>
        rw [en] at h3
        obtain rfl := hi j en
        subst hX
        have M2 : Mat c (X.suite a ((a, oe) :: pn)) := ⟨M.N, M.sc, M.fn⟩
        exact pa_cons (pe_xf (X := X) q3 q4 hz hf (nm_ok M2 h3)) (its_ok xx M rfl hz hf hi h4) rfl
theorem su_ok {h : Hc} {st : Stmt} {a : Addr} {oe : Obj} {cls : Value} {d : Option Addr} {pn : List (Addr × Obj)} (xx : Xx G X.prog X.K X.mg) (M : Mat c X) (hz : Zc cls d oe) (hf : ∃ vs, oe.data = .fields vs) (m : mSu G h c st = true) :
    PSs (X.suite a ((a, oe) :: pn)) [st] (tSu a cls d (He.ga X.K h.cls) (h.nm.getD 0) h.su) := by
  unfold mSu at m
  split at m
  · rename_i l es p1 p2 e1
    rw [e1]
    have pa := its_ok (a := a) (oe := oe) (cls := cls) (d := d) (i := h.nm.getD 0) (pn := pn) xx M rfl hz hf (fun j e => by rw [e]; rfl) m
    exact pss_imp (pss_cons (ps_ret (pe_lst pa)) pss_nil) fun D σ H q => q
  · rename_i b k j p1 p2 e1
    rw [e1, of_decide_eq_true m]
    exact pss_imp (pss_cons (ps_ret pe_bl) pss_nil) fun D σ H q => q
  · cases m
theorem hs_ok (xx : Xx G X.prog X.K X.mg) (M : Mat c X) : ∀ {hs : List Hc} {l : List ExceptHandler}, mHs G hs c l = true → ClOk X l (hs.map (clzOf X))
  | [], [], _ => .nil
  | [], _ :: _, m => by cases m
  | h :: hs, [], m => by cases m
  | h :: hs, .ExceptHandler t n body p :: r, m => by
    cases t with
    | none => cases m
    | some t =>
      cases t <;> try (cases m; done)
      rename_i x p2
      cases body with
      | nil => cases m
      | cons st rest =>
        cases rest with
        | cons _ _ => cases m
        | nil =>
          have m' : (decide (x = h.cls) && (glB c.sc x && (!(x == ("__debug__" : Str)) && ((G.exm.any fun p => decide (p.1.2 = h.cls)) && (nmH h c n && (mSu G h c st && mHs G hs c r)))))) = true := m
          simp only [Bool.and_eq_true, decide_eq_true_eq, Bool.not_eq_true', List.any_eq_true] at m'
          obtain ⟨rfl, h2, h3, ⟨q, hq, eq⟩, h5, h6, h7⟩ := m'
          have mg1 := (xx.mat q hq).2
          rw [eq] at mg1
          refine .cons (k := clzOf X h) ?_ ⟨gl_ok M h2, h3, .inl mg1⟩ (fun p hp => ?_) (fun a oe cls d pn hz hf => su_ok xx M hz hf h6) (hs_ok xx M h7)
          · show n = Option.map (·.2) (h.nm.map fun i => (i, (X.N[i]?).getD ("" : Str)))
            unfold nmH at h5
            split at h5
            · rename_i e1; rw [e1]; rfl
            · rename_i i y e1
              rw [Bool.and_eq_true, decide_eq_true_eq] at h5
              rw [e1, M.N]
              show some y = some ((c.N[i]?).getD ("" : Str))
              rw [h5.1]
              rfl
            · cases h5
          · have hp' : (h.nm.map fun i => (i, (X.N[i]?).getD ("" : Str))) = some p := hp
            unfold nmH at h5
            split at h5
            · rename_i e1; rw [e1] at hp'; cases hp'
            · rename_i i y e1
              rw [Bool.and_eq_true, decide_eq_true_eq] at h5
              rw [e1] at hp'
              cases hp'
              have e2 : (X.N[i]?) = some y := by rw [M.N]; exact h5.1
              have e3 : (X.N[i]?).getD ("" : Str) = y := by rw [e2]; rfl
              refine ⟨by show X.N[i]? = some ((X.N[i]?).getD ("" : Str)); rw [e3]; exact e2, ?_⟩
              show X.env.scope.names.lookup ((X.N[i]?).getD ("" : Str)) = some .local
              rw [e3, M.sc]
              have h6' := h5.2
              split at h6'
              · assumption
              · cases h6'
            · cases h5
theorem omn_nil {es : Es} {l : List Expr} (h : mEs G es c l = true) : l = [] → ∀ s m, evEs G (callN G n) es s m = .ok [] m := by
  intro e
  subst e
  cases es with
  | nil => exact fun _ _ => rfl
  | cons _ _ => unfold mEs at h; cases h
theorem noLC_sw {a : Expr} {t : Option Expr} {l : Nat} {env : Env} (h : noLC a = true) : swapsWith a t l env = pure false := by
  cases a <;> first | rfl | cases h
theorem noTup_sw {tg a : Expr} {env : Env} (h : noTup a = true) : swappedStores [tg] a env = pure none := by
  cases a <;> first | (cases tg <;> rfl) | cases h
mutual
theorem sS : ∀ (s : S) {X : Cx} {Wx : WX} {W0 : Wd} {H0 : Hp} {c : MC} {st : Stmt}, XokS G n X Wx → Mat c X → mS G s c st = true → PS X st (tD X Wx W0 H0 (evS G (callN G n) s))
  | .ex e, X, Wx, W0, H0, c, st, x, M, h => by
    unfold mS at h
    split at h
    · obtain ⟨h1, h2⟩ := Bool.and_eq_true_iff.mp h
      exact ps_cast (d_ex (sE e x.toXok M h2) (noLC_sw h1)) fun _ _ => rfl
    · cases h
  | .rse cn e, X, Wx, W0, H0, c, st, x, M, h => by
    unfold mS at h
    split at h
    · rename_i y p a pos pos'
      simp only [Bool.and_eq_true, decide_eq_true_eq, Bool.not_eq_true'] at h
      obtain ⟨rfl, h2, h3, h4, h5, h6⟩ := h
      cases el : G.exs.lookup y with
      | none => rw [el] at h6; cases h6
      | some f =>
        obtain ⟨q1, q2, _, _⟩ := x.xx.ini _ (mem_of_lookup el)
        exact ps_cast (d_rse (k := 2 * n) q1 x.room (gl_ok M h2) q2 x.calm x.tk (sE e x.toXok M h5) h3 (by cases a <;> first | rfl | cases h4)) fun s m => by show (evE G (callN G n) e s m).st s _ = _; rw [el]
    · cases h
  | .try_ b hs, X, Wx, W0, H0, c, st, x, M, h => by
    unfold mS at h
    split at h
    · rename_i body hd hds pos
      simp only [Bool.and_eq_true] at h
      obtain ⟨h1, h2, h3⟩ := h
      refine ps_imp (try_clz x.stk x.fr x.nd x.tk (tb := fun W => tSt X.K X.mg W W0 H0 (evSs G (callN G n) b)) (fun W pn xe tk po => sSs b (X := X.tr pn xe) (Wx := W) ⟨⟨x.calm, x.nd, x.room, tk, x.fx, x.fns⟩, po, x.kind, x.xx, x.stk, x.fr⟩ ⟨M.N, M.sc, M.fn⟩ h1) (hs_ok x.xx M h3)) fun D σ H ⟨Wl, W, s, m, hh, o⟩ => ⟨Wl, W, s, m, hh, ?_⟩
      have o' : OutS X.K X.mg Wx W0 H0 Wl (match evSs G (callN G n) b s m with
        | .ex x s1 m1 => hdS G x hs s1 m1
        | .nx s1 m1 => .nx s1 m1
        | .rt v m1 => .rt v m1
        | .bk s1 m1 => .bk s1 m1
        | .ct s1 m1 => .ct s1 m1
        | .bad => .bad) D := o
      revert o'
      cases evSs G (callN G n) b s m with
      | nx s1 m1 => exact id
      | rt v m1 => exact id
      | bk s1 m1 => exact id
      | ct s1 m1 => exact id
      | bad => exact id
      | ex xn s1 m1 => exact fun o W' σ' d H' hH ea => hds_ok x.xx h2 o hH ea
    · cases h
  | .mov i j, X, Wx, W0, H0, c, st, x, M, h => by
    unfold mS at h
    split at h
    · simp only [Bool.and_eq_true, decide_eq_true_eq] at h
      obtain ⟨h1, h2, h3⟩ := h
      obtain ⟨l1, l2⟩ := loc_ok M h2
      exact ps_cast (d_mov x.nd (by rw [M.N]; exact h1) l1 l2 (nm_ok M h3)) fun _ _ => rfl
    · cases h
  | .asg t e, X, Wx, W0, H0, c, st, x, M, h => by
    unfold mS at h
    split at h
    · rename_i tg a _
      simp only [Bool.and_eq_true] at h
      obtain ⟨h1, h2, h3, h4⟩ := h
      cases t with
      | nm i => exact ps_cast (d_asg (t := .nm i) (asg_name x M (by cases tg <;> first | exact h1 | (cases h1; done)) h2 h4)) fun _ _ => rfl
      | tp l =>
        have h5 : noLC a = true ∧ noTup a = true := by
          cases tg <;> first | (cases h1; done) | (obtain ⟨q1, q2⟩ := Bool.and_eq_true_iff.mp h3; exact ⟨q1, q2⟩)
        refine ps_cast (d_asg (t := .tp l) (ps_asg (sE e x.toXok M h4) (sT M x.nd x.calm h1) (noLC_sw h5.1) (noTup_sw h5.2) ?_)) fun _ _ => rfl
        cases tg <;> first | (cases h1; done) | rfl
      | tl l =>
        have h5 : noLC a = true ∧ noTup a = true := by
          cases tg <;> first | (cases h1; done) | (obtain ⟨q1, q2⟩ := Bool.and_eq_true_iff.mp h3; exact ⟨q1, q2⟩)
        refine ps_cast (d_asg (t := .tl l) (ps_asg (sE e x.toXok M h4) (sT M x.nd x.calm h1) (noLC_sw h5.1) (noTup_sw h5.2) ?_)) fun _ _ => rfl
        cases tg <;> first | (cases h1; done) | rfl
    · cases h
  | .asgO i e, X, Wx, W0, H0, c, st, x, M, h => by
    unfold mS at h
    split at h
    · simp only [Bool.and_eq_true] at h
      obtain ⟨h1, h2, h3⟩ := h
      exact ps_cast (d_asgO (asg_name x M h1 h2 h3)) fun _ _ => rfl
    · cases h
  | .asgM i e, X, Wx, W0, H0, c, st, x, M, h => by
    unfold mS at h
    split at h
    · simp only [Bool.and_eq_true] at h
      obtain ⟨h1, h2, h3⟩ := h
      exact ps_cast (d_asgM (asg_name x M h1 h2 h3)) fun _ _ => rfl
    · cases h
  | .aug i o e, X, Wx, W0, H0, c, st, x, M, h => by
    unfold mS at h
    split at h
    · simp only [Bool.and_eq_true, decide_eq_true_eq] at h
      obtain ⟨h1, h2, h3, h4⟩ := h
      subst h2
      obtain ⟨y, p, rfl, q1, q2, q3⟩ := mN_ok M h1
      exact ps_cast (d_aug x.nd q1 q2 q3 (sE e x.toXok M h4) h3) fun _ _ => rfl
    · cases h
  | .om i f es, X, Wx, W0, H0, c, st, x, M, h => by
    unfold mS at h
    split at h
    · simp only [Bool.and_eq_true, decide_eq_true_eq] at h
      obtain ⟨h1, h2, h3, h4, h5⟩ := h
      subst h2
      exact ps_cast (d_om (nm_ok M h1) h3 h4 (mEs_star h5) (sEs es x.toXok M h5) (omn_nil h5)) fun _ _ => rfl
    · cases h
  | .omr t i f es, X, Wx, W0, H0, c, st, x, M, h => by
    unfold mS at h
    split at h
    · simp only [Bool.and_eq_true, decide_eq_true_eq] at h
      obtain ⟨h0, h1, h2, h3, h4, h5⟩ := h
      subst h2
      obtain ⟨y, p, rfl, q1, q2, q3⟩ := mN_ok M h0
      exact ps_cast (d_omr x.nd q1 q2 q3 (nm_ok M h1) h3 h4 (mEs_star h5) (sEs es x.toXok M h5) (omn_nil h5)) fun _ _ => rfl
    · cases h
  | .seti i b e, X, Wx, W0, H0, c, st, x, M, h => by
    unfold mS at h
    split at h
    · simp only [Bool.and_eq_true] at h
      obtain ⟨h1, h2, h3, h4⟩ := h
      exact ps_cast (d_seti x.units (nm_ok M h1) (sE b x.toXok M h3) h2 (sE e x.toXok M h4)) fun _ _ => rfl
    · cases h
  | .setf i f e, X, Wx, W0, H0, c, st, x, M, h => by
    unfold mS at h
    split at h
    · simp only [Bool.and_eq_true, decide_eq_true_eq] at h
      obtain ⟨h1, h2, h3⟩ := h
      subst h2
      exact ps_cast (d_setf x.toXok (nm_ok M h1) (sE e x.toXok M h3)) fun _ _ => rfl
    · cases h
  | .ret e, X, Wx, W0, H0, c, st, x, M, h => by
    unfold mS at h
    split at h
    · exact ps_cast (d_ret (sE e x.toXok M h)) fun _ _ => rfl
    · cases h
  | .retS i, X, Wx, W0, H0, c, st, x, M, h => by
    unfold mS at h
    split at h
    · exact ps_cast (d_retS (nm_ok M h)) fun _ _ => rfl
    · cases h
  | .retN, X, Wx, W0, H0, c, st, x, M, h => by
    unfold mS at h
    split at h
    · exact ps_cast d_retN fun _ _ => rfl
    · cases h
  | .ife t a b, X, Wx, W0, H0, c, st, x, M, h => by
    unfold mS at h
    split at h
    · simp only [Bool.and_eq_true] at h
      obtain ⟨h1, h2, h3⟩ := h
      exact ps_cast (d_ife (sB t x.toXok M h1) (sSs a x M h2) (sSs b x M h3)) fun _ _ => rfl
    · cases h
  | .for_ t it body fg, X, Wx, W0, H0, c, st, x, M, h => by
    unfold mS at h
    split at h
    · simp only [Bool.and_eq_true] at h
      obtain ⟨h1, h2, h3, h4⟩ := h
      exact ps_cast (d_for x.po x.calm (sI it x.toXok M h3) (sT M x.nd x.calm h2) (sSs body x M h4) (set_ok h1)) fun _ _ => rfl
    · cases h
  | .whl k t body fg, X, Wx, W0, H0, c, st, x, M, h => by
    unfold mS at h
    split at h
    · obtain ⟨h1, h2⟩ := Bool.and_eq_true_iff.mp h
      exact ps_cast (d_whl x.po (sB t x.toXok M h1) (sSs body x M h2)) fun _ _ => rfl
    · cases h
  | .pass, X, Wx, W0, H0, c, st, x, M, h => by
    unfold mS at h
    split at h
    · exact ps_cast d_pass fun _ _ => rfl
    · cases h
  | .brk, X, Wx, W0, H0, c, st, x, M, h => by
    unfold mS at h
    split at h
    · exact ps_cast d_brk fun _ _ => rfl
    · cases h
  | .cont, X, Wx, W0, H0, c, st, x, M, h => by
    unfold mS at h
    split at h
    · exact ps_cast d_cont fun _ _ => rfl
    · cases h
  | .never, X, Wx, W0, H0, c, st, x, M, h => ps_cast d_never fun _ _ => rfl
  | .gfz _, X, Wx, W0, H0, c, st, x, M, h => by
    unfold mS at h
    cases h
  | .gfg _, X, Wx, W0, H0, c, st, x, M, h => by
    unfold mS at h
    cases h
theorem sSs : ∀ (ss : Ss) {X : Cx} {Wx : WX} {W0 : Wd} {H0 : Hp} {c : MC} {l : List Stmt}, XokS G n X Wx → Mat c X → mSs G ss c l = true → PSs X l (tD X Wx W0 H0 (evSs G (callN G n) ss))
  | .nil, X, Wx, W0, H0, c, l, x, M, h => by
    unfold mSs at h
    split at h
    · exact pss_cast ds_nil fun _ _ => rfl
    · cases h
  | .cons s r, X, Wx, W0, H0, c, l, x, M, h => by
    unfold mSs at h
    split at h
    · exact pss_cast (ds_gfz (sSs r x M h)) fun _ _ => rfl
    · exact pss_cast (ds_gfg (sSs r x M h)) fun _ _ => rfl
    · split at h
      · obtain ⟨h1, h2⟩ := Bool.and_eq_true_iff.mp h
        exact pss_cast (ds_cons (sS s x M h1) (sSs r x M h2)) fun _ _ => rfl
      · cases h
end
end
end Dp
end

section
set_option Elab.async false
set_option linter.all false
set_option maxRecDepth 100000
set_option maxHeartbeats 4000000
/-! The deep layer, part 20: defs, the whole. -/
namespace Dp
open PySem PySem.Spec PyProof.Rows L2
section
variable {G : Prog} {P : Program} {w : World} {K : PySem.W.Frag} {mg : Str → Option Value} {base : Heap} {n : Nat}
theorem start_hold {W : Wd} {m : Mu} {H : Hp} {f : Fn} {ds : List D} {vs : List V} (hl : ds.length = f.ps.length) (hN : f.ps.length ≤ f.N.length) (st : St0 K mg W m H) (r : Reps K mg W ds vs) : HoldF K mg W H W W (start0 f ds) m (start f.N vs) H := by
  have e1 : ∀ (i : Nat) (x : SV), (start0 f ds)[i]? = some (some x) → ∃ d, x = .val d ∧ ds[i]? = some d := fun i x e => by
    unfold start0 at e
    by_cases hi : i < ds.length
    · rw [List.getElem?_append_left (by simpa using hi), List.getElem?_map] at e
      cases q : ds[i]? with
      | none => rw [q] at e; cases e
      | some d => rw [q] at e; cases e; exact ⟨d, rfl, rfl⟩
    · rw [List.getElem?_append_right (by simpa using hi), List.getElem?_replicate] at e
      split at e <;> cases e
  refine ⟨⟨st, ?_, fun i d e => ?_, fun i c e => ?_, fun i j c c' a e _ _ _ => ?_⟩, Step.refl W H, fun i c a e _ => ?_, Le.refl W⟩
  · unfold start0 L2.start
    simp [r.length]
  · obtain ⟨d', e2, e3⟩ := e1 i _ e
    cases e2
    obtain ⟨v, ev, rv⟩ := r.get e3
    refine ⟨v, ?_, rv⟩
    unfold L2.start
    have hi := (List.getElem?_eq_some_iff.mp ev).1
    rw [List.getElem?_append_left (by simpa using hi), List.getElem?_map, ev]
    rfl
  · obtain ⟨d', e2, _⟩ := e1 i _ e
    cases e2
  · obtain ⟨d', e2, _⟩ := e1 i _ e
    cases e2
  · obtain ⟨d', e2, _⟩ := e1 i _ e
    cases e2
/-- what the text gives of a def -/
structure FnD (G : Prog) (K : PySem.W.Frag) (mg : Str → Option Value) (f : Fn) : Prop where
  ex : ∃ (name : Str) (params : Arguments) (body : List Stmt) (scope : Scope) (dvs : List V) (kws : List (Str × V)) (fd : FuncData), FunD K name f.qual params body scope dvs kws (He.fAd K f.at_) fd ∧ FnScope f.N f.ps scope ∧ mSs G f.body ⟨f.N, scope, true⟩ body = true ∧
    ∀ j, j ≤ f.ps.length → f.ps.length ≤ j + f.dfl.length → ∃ (dvs : List V) (ds : List Value), Vals dvs ds ∧ Binds K fd f.ps ds ∧ ∀ W : Wd, Reps K mg W (f.dfl.drop (j + f.dfl.length - f.ps.length)) dvs
theorem pre_len {N ps : List Str} {sc : Scope} (S : FnScope N ps sc) : ps.length ≤ N.length := by
  have := congrArg List.length S.pre
  rw [List.length_take] at this
  omega
theorem out_back {W : Wd} {H : Hp} {E : XK} {Q : VK} {r : SR} (o : OutG K mg (SvAt K mg) (WE0 E) W H [] r.back Q) : OutS K mg (WE0 E) W H W r { nx := fun _ H' => Q .non H', rt := Q } := by
  cases r with
  | nx s m => exact fun W' σ H' h => o W' .non H' h.h.toSt0 h.st rfl
  | rt v m => exact fun W' u H' x p av => o W' u H' x p av
  | bk s m => exact o.elim
  | ct s m => exact o.elim
  | ex x s m => exact fun W' σ d H' h ea => o W' d H' h.h.toSt0 h.st ea
  | bad => exact o.elim
theorem fn_step (fx : Fx G K mg) (xx : Xx G P K mg) (fns : ∀ k f, G.fns[k]? = some f → FnF G P w K mg base n k f) {k : Nat} {f : Fn} (hk : G.fns[k]? = some f) {name : Str} {params : Arguments} {body : List Stmt} {scope : Scope} {dvs : List V} {kws : List (Str × V)} {fd : FuncData}
    (F : FunD K name f.qual params body scope dvs kws (He.fAd K f.at_) fd) (S : FnScope f.N f.ps scope) (hm : mSs G f.body ⟨f.N, scope, true⟩ body = true) : FnOk P w K mg base (L2.CX P w) (2 * (n + 1)) (He.fAd K f.at_) fd f.ps (spF G K mg (n + 1) k) := by
  refine F.ok (k := 2 * n + 1) S (fun vs H Q E h => ?_) fun cdv A outer s H vs Q E hr h => ?_
  · obtain ⟨f', W, ds, m, hf, hl, st, r, _⟩ := h
    rw [hk] at hf
    cases hf
    rw [← r.length, hl]
  · obtain ⟨f', W, ds, m, hf, hl, st, r, o⟩ := h
    rw [hk] at hf
    cases hf
    have ef : fill f ds = ds := by
      unfold fill
      rw [show ds.length + f.dfl.length - f.ps.length = f.dfl.length by omega, List.drop_length, List.append_nil]
    unfold callN at o
    rw [hk] at o
    dsimp only at o
    rw [ef, if_pos hl] at o
    refine ⟨_, sSs (n := n) f.body (W0 := W) (H0 := H) (Wx := WE0 E) (c := ⟨f.N, scope, true⟩) ⟨⟨rfl, S.nd, hr, ?_, fx, fns⟩, ?_, S.kind, xx, rfl, rfl⟩ ⟨rfl, rfl, fun _ _ => rfl⟩ hm, ?_⟩
    · exact takes_of rfl rfl rfl rfl
    · exact passes_of rfl
    · exact ⟨W, W, start0 f ds, m, start_hold hl (pre_len S) st r, out_back o⟩
theorem fn_all (fx : Fx G K mg) (xx : Xx G P K mg) (fds : ∀ f ∈ G.fns, FnD G K mg f) : ∀ n k f, G.fns[k]? = some f → FnF G P w K mg base n k f := by
  intro n
  induction n with
  | zero =>
    intro k f hk
    obtain ⟨name, params, body, scope, dvs, kws, fd, F, S, hm, B⟩ := (fds f (List.mem_of_getElem? hk)).ex
    exact ⟨⟨fd, ⟨fun vs H Q E h => (by obtain ⟨f', W, ds, m, hf, hl, st, r, o⟩ := h; exact o.elim), fun A outer s H args us vs Q E _ _ _ _ h => (by obtain ⟨f', W, ds, m, hf, hl, st, r, o⟩ := h; exact o.elim)⟩, B⟩, F.kp⟩
  | succ n ih =>
    intro k f hk
    obtain ⟨name, params, body, scope, dvs, kws, fd, F, S, hm, B⟩ := (fds f (List.mem_of_getElem? hk)).ex
    exact ⟨⟨fd, fn_step fx xx ih hk F S hm, B⟩, F.kp⟩
end
theorem xx_nil {G : Prog} {P : Program} {K : PySem.W.Frag} {mg : Str → Option Value} (h1 : G.exs = []) (h2 : G.exm = []) : Xx G P K mg := ⟨fun p hp => (by rw [h1] at hp; cases hp), fun p hp => (by rw [h2] at hp; cases hp)⟩
/-! ### the law -/
def CXA : CXT := fun outer H s E e s' => ∃ (P : Program) (w : World), L2.CX P w outer H s E e s'
theorem cxa_no : ∀ (H : Hp) (s : Shared) (e : Value) (s' : Shared), CXA [] H s (fun _ _ _ => False) e s' → False := fun H s e s' ⟨P, w, a, B, H', cls, d, _, _, _, _, _, _, _, h⟩ => h
theorem FnOk.cx {P : Program} {w : World} {K : PySem.W.Frag} {mg : Str → Option Value} {base : Heap} {CX CX' : CXT} {k : Nat} {f : Addr} {fd : FuncData} {ps : List Str} {sp : Sp} (F : FnOk P w K mg base CX k f fd ps sp) (h : ∀ o H s E e s', CX o H s E e s' → CX' o H s E e s') : FnOk P w K mg base CX' k f fd ps sp := by
  refine ⟨F.len, fun A outer s H args us vs Q E hr e0 hb r hs => codeAny_mono (F.run A outer s H args us vs Q E hr e0 hb r hs) fun r s' q => ?_⟩
  cases r with
  | error e => exact h _ _ _ _ _ _ q
  | ok fl => cases fl <;> exact q
/-- the law's promise -/
def spLaw (K : PySem.W.Frag) (most : Nat) : Sp := fun vs H Q _ => ∃ (a : Addr) (ns : List Int), vs = [.ref a] ∧ ns.length ≤ most ∧ SqL K H a (ns.map V.int) ∧ ∀ H', Q (.bl true) H'
theorem law_ok {G : Prog} {P : Program} {w : World} {K : PySem.W.Frag} {mg : Str → Option Value} {base : Heap} (fx : Fx G K mg) (xx : Xx G P K mg) (fds : ∀ f ∈ G.fns, FnD G K mg f) {n k most : Nat} {f : Fn} (hk : G.fns[k]? = some f) (hps : f.ps.length = 1)
    (pure : ∀ ns : List Int, ns.length ≤ most → ∃ m, callN G n k [.seq (ns.map .int)] [] = .ok (.val (.bl true)) m) {name : Str} {params : Arguments} {body : List Stmt} {scope : Scope} {dvs : List V} {kws : List (Str × V)} {fd : FuncData} (hn : n ≠ 0)
    (F : FunD K name f.qual params body scope dvs kws (He.fAd K f.at_) fd) (S : FnScope f.N f.ps scope) (hm : mSs G f.body ⟨f.N, scope, true⟩ body = true) : FnOk P w K mg base CXA (2 * n) (He.fAd K f.at_) fd f.ps (spLaw K most) := by
  obtain ⟨n, rfl⟩ := Nat.exists_eq_succ_of_ne_zero hn
  refine FnOk.cx (FnOk.imp (fn_step (P := P) (w := w) (base := base) fx xx (fn_all fx xx fds n) hk F S hm) fun vs H Q E h => ?_) fun o H s E e s' h => ⟨P, w, h⟩
  obtain ⟨a, ns, rfl, hl, hs, hq⟩ := h
  obtain ⟨m, hp⟩ := pure ns hl
  refine ⟨f, ⟨H, []⟩, [.seq (ns.map .int)], [], hk, hps.symm ▸ rfl, ⟨Same.refl _, rfl, fun i a c e _ => by simp at e, fun a ha => by simp at ha, by simp⟩, Reps.one ⟨a, _, rfl, hs, reps_ints ns⟩, ?_⟩
  rw [hp]
  exact fun W' b H' _ _ av => by
    cases av
    exact hq H'
end Dp
end

section
set_option Elab.async false
set_option linter.all false
set_option maxRecDepth 100000
set_option maxHeartbeats 4000000
/-! The deep layer, part 21: the head's facts. -/
namespace Dp
open PySem PySem.Spec PyProof.Rows L2
def metB (G : Prog) (K : PySem.W.Frag) (p : (Str × Str) × Nat) : Bool := match G.fns[p.2]? with
  | some f => (He.Fa.cls p.1.1).ok K && (He.eqO (PySem.W.findIn K (.ref (He.ga K p.1.1)) p.1.2) (some (some (.ref (He.fAd K f.at_)))) && (PySem.W.isFn K (.ref (He.fAd K f.at_)) && PySem.W.keepIn K (.ref (He.fAd K f.at_))))
  | none => false
def newB (G : Prog) (K : PySem.W.Frag) (p : Str × Nat) : Bool := match G.fns[p.2]? with
  | some f => (He.Fa.glo p.1).ok K && (PySem.W.makesIn K (He.ga K p.1) && (He.eqO (PySem.W.findIn K (.ref (He.ga K p.1)) "__init__") (some (some (.ref (He.fAd K f.at_)))) && (PySem.W.isFn K (.ref (He.fAd K f.at_)) && PySem.W.keepIn K (.ref (He.ga K p.1)))))
  | none => false
def clsB (K : PySem.W.Frag) (c : Str) : Bool := (He.Fa.glo c).ok K && ((He.Fa.cls c).ok K && (He.eqO (PySem.W.findIn K (.ref (He.ga K c)) "__class__") (some (some (.builtin "object.__class__"))) && (decide (PySem.W.specialIn K (.builtin "object.__class__") "__get__" = some (some (.builtin "getset_descriptor.__get__"))) && (decide (PySem.W.takesIn K (.builtin "object.__class__") = some true) && decide (PySem.W.mroIn K (He.ga K c) (.type "object") = some true)))))
def factsB (G : Prog) (K : PySem.W.Frag) : Bool :=
  (bltNames.all fun x => (He.Fa.free (Str.ofString x)).ok K) && ((G.gints.all fun p => (He.Fa.int p.1 p.2).ok K) && ((G.clss.all fun c => clsB K c) && ((G.flds.all fun p => (He.Fa.cls p.1).ok K && p.2.all fun f => (He.Fa.noat p.1 f).ok K) &&
  ((G.subs.all fun p => decide (PySem.W.kitOne K (tyV K p.1.1) (tyV K p.1.2) = some p.2) && (match p.1.1 with | .own c => decide (c ∈ G.clss) | .bt _ => true)) &&
  ((G.fns.all fun f => match f.at_.2 with | none => (He.Fa.glo f.at_.1).ok K | some _ => true) && ((G.mets.all fun p => metB G K p) && G.news.all fun p => newB G K p))))))
theorem facts_fx {G : Prog} {K : PySem.W.Frag} {h : Heap} {mg : Str → Option Value} (X : K.In h) (N : h.Ns mainGlobals mg) (c : factsB G K = true) : Fx G K mg := by
  unfold factsB at c
  simp only [Bool.and_eq_true, List.all_eq_true] at c
  obtain ⟨c1, c2, c3, c4, c5, c6, c7, c8⟩ := c
  refine ⟨fun x hx => He.free_ok X N (c1 x hx), fun p hp => ?_, fun c hc => ?_, fun p hp => ?_, fun p hp c e => ?_, fun f hf e => ?_, fun p hp => ?_, fun p hp => ?_, fun p hp => of_decide_eq_true (c5 p hp).1⟩
  · obtain ⟨t, e⟩ := He.int_ok X N (c2 p hp)
    exact ⟨_, e, t, rfl⟩
  · have q := c3 c hc
    unfold clsB at q
    simp only [Bool.and_eq_true, decide_eq_true_eq] at q
    obtain ⟨q1, q2, q3, q4, q5, q6⟩ := q
    exact ⟨He.glo_ok X N q1, He.cls_ok q2, He.eqO_ok q3, q4, q5, q6⟩
  · obtain ⟨q1, q2⟩ := c4 p hp
    exact ⟨He.cls_ok q1, fun f hf => He.noat_ok (q2 f hf)⟩
  · have q := (c5 p hp).2
    rw [e] at q
    exact of_decide_eq_true q
  · have q := c6 f hf
    rw [e] at q
    exact He.glo_ok X N q
  · have q := c7 p hp
    unfold metB at q
    cases e : G.fns[p.2]? with
    | none => rw [e] at q; cases q
    | some f =>
      rw [e] at q
      simp only [Bool.and_eq_true] at q
      obtain ⟨q1, q2, q3, q4⟩ := q
      exact ⟨f, rfl, He.cls_ok q1, He.eqO_ok q2, q3, q4⟩
  · have q := c8 p hp
    unfold newB at q
    cases e : G.fns[p.2]? with
    | none => rw [e] at q; cases q
    | some f =>
      rw [e] at q
      simp only [Bool.and_eq_true] at q
      obtain ⟨q1, q2, q3, q4, q5⟩ := q
      exact ⟨f, rfl, ⟨q2, He.eqO_ok q3, q4, q5⟩, He.glo_ok X N q1⟩
/-! ### the Hook -/
def obsP (ex : PySem.W.Frag → Bool) (G : Prog) (fn : List He.DefD) (K : PySem.W.Frag) : He.AlD := ((factsB G K && ex K) && fn.all fun d => d.ok K, fn.map fun d => He.fnW K d.at_)
def SaysP (ex : PySem.W.Frag → Bool) (G : Prog) (fn : List He.DefD) (K : PySem.W.Frag) : Prop := obsP ex G fn K = He.valD fn
def obsPG (n : Nat) (ex : PySem.W.Frag → Bool) (G : Prog) (fn : List He.DefD) (g : Addr → Option Obj) : He.AlD := obsP ex G fn (He.frG g (He.asD g n))
def hookP (n : Nat) (ex : PySem.W.Frag → Bool) (G : Prog) (fn : List He.DefD) : PySem.W.Hook where
  α := He.AlD
  obs := fun s => obsPG n ex G fn s.heap.get?
  val := fun _ => He.valD fn
  says := fun _ h => ∃ K : PySem.W.Frag, K.In h ∧ SaysP ex G fn K
  of := fun _ _ e => ⟨_, He.frG_in, e⟩
  keeps := fun _ _ _ ⟨K, hK, c⟩ k => ⟨K, PySem.W.Frag.In.keeps hK k, c⟩
theorem obsPG_eq {n : Nat} {ex : PySem.W.Frag → Bool} {G : Prog} {fn : List He.DefD} {g : Addr → Option Obj} {s : Shared} (h : ∀ a, g a = s.heap.get? a) : obsPG n ex G fn g = (hookP n ex G fn).obs s := by
  have e : g = s.heap.get? := funext h
  rw [e] <;> rfl
theorem SaysP.facts {ex : PySem.W.Frag → Bool} {G : Prog} {fn : List He.DefD} {K : PySem.W.Frag} (c : SaysP ex G fn K) : factsB G K = true ∧ ex K = true :=
  He.ba (He.ba (show ((factsB G K && ex K) && fn.all fun d => d.ok K) = true from congrArg (fun z : He.AlD => z.1) c)).1
theorem SaysP.def_ {ex : PySem.W.Frag → Bool} {G : Prog} {fn : List He.DefD} {K : PySem.W.Frag} (c : SaysP ex G fn K) (i : Nat) {d : He.DefD} (h : fn[i]? = some d) : ∃ fd, FunD K d.name d.qual d.params d.body d.scope (d.dvs K) (d.kws K) (He.fAd K d.at_) fd := by
  have c2 := (He.ba (show ((factsB G K && ex K) && fn.all fun d => d.ok K) = true from congrArg (fun z : He.AlD => z.1) c)).2
  have e : fn.map (fun d => He.fnW K d.at_) = fn.map He.DefD.val := congrArg (fun z : He.AlD => z.2) c
  have e2 : (fn.map fun d => He.fnW K d.at_)[i]? = (fn.map He.DefD.val)[i]? := by rw [e]
  rw [List.getElem?_map, List.getElem?_map, h] at e2
  exact He.DefD.funD (Option.some.inj e2) (List.all_eq_true.mp c2 d (List.mem_of_getElem? h))
/-- the empty tuple among a def's defaults -/
def tup0B (p : PySem.W.Frag → Addr) (K : PySem.W.Frag) : Bool := match K.lookup (p K) with
  | some ⟨.type c, _, .seq its _, _⟩ => decide (c = "tuple") && decide (its.size = 0)
  | _ => false
theorem tup0_ok {p : PySem.W.Frag → Addr} {K : PySem.W.Frag} {mg : Str → Option Value} (h : tup0B p K = true) (W : Wd) : Rep K mg W (.gl "()") (.ref (p K)) := by
  unfold tup0B at h
  cases q : K.lookup (p K) with
  | none => rw [q] at h; cases h
  | some o =>
    obtain ⟨oc, od, dt, osl⟩ := o
    rw [q] at h
    cases oc with
    | type c =>
      cases dt with
      | seq its n =>
        obtain ⟨h1, h2⟩ := He.ba (show (decide (c = "tuple") && decide (its.size = 0)) = true from h)
        have e : its = #[] := Array.eq_empty_of_size_eq_zero (of_decide_eq_true h2)
        subst e
        exact ⟨_, rfl, .inr ⟨_, #[], n, q, congrArg Value.type (of_decide_eq_true h1), rfl, Nat.zero_le _, .nil⟩, rfl⟩
      | _ => cases h
    | _ => cases dt <;> cases h
/-! ### defs -/
def scopeB (N ps : List Str) (sc : Scope) : Bool := (match sc.kind with | .function => true | _ => false) && (!sc.isCoroutine && (!sc.isGenerator && (decide N.Nodup && (decide (N.take ps.length = ps) && ((ps.all fun x => match sc.names.lookup x with | some .local => true | some .cell => true | _ => false) && sc.names.all fun y => match y.2 with | .free => false | _ => true)))))
theorem scope_ok {N ps : List Str} {sc : Scope} (h : scopeB N ps sc = true) : FnScope N ps sc := by
  unfold scopeB at h
  simp only [Bool.and_eq_true, Bool.not_eq_true', decide_eq_true_eq, List.all_eq_true] at h
  obtain ⟨h1, h2, h3, h4, h5, h6, h7⟩ := h
  refine ⟨?_, h2, h3, h4, h5, fun x hx => ?_, fun y hy e => ?_⟩
  · split at h1
    · assumption
    · cases h1
  · have q := h6 x hx
    split at q
    · exact .inl (by assumption)
    · exact .inr (by assumption)
    · cases q
  · have q := h7 y hy
    rw [e] at q
    cases q
def defB (G : Prog) (f : Fn) (d : He.DefD) : Bool := decide (f.at_ = d.at_) && (decide (f.qual = d.qual) && (scopeB f.N f.ps d.scope && mSs G f.body ⟨f.N, d.scope, true⟩ d.body))
/-- a def whose parameters have no defaults -/
theorem fnd_plain {G : Prog} {K : PySem.W.Frag} {mg : Str → Option Value} {f : Fn} {d : He.DefD} (F : ∃ fd, FunD K d.name d.qual d.params d.body d.scope (d.dvs K) (d.kws K) (He.fAd K d.at_) fd) (hd : d.dfl = []) (hf : f.dfl = []) (hB : defB G f d = true)
    (hb : ∀ (kV doc pm : Value) (an : Option Addr) (cdv ct : Value) (us : List Value), us.length = f.ps.length → bindArgs (PySem.W.fnOf d.name d.qual d.params d.body d.scope .none kV doc pm an cdv ct) ⟨us, []⟩ = pure (f.ps.zip us)) : FnD G K mg f := by
  obtain ⟨fd, F⟩ := F
  unfold defB at hB
  simp only [Bool.and_eq_true, decide_eq_true_eq] at hB
  obtain ⟨h1, h2, h3, h4⟩ := hB
  have e0 : d.dvs K = [] := by unfold He.DefD.dvs; rw [hd]; rfl
  rw [e0, ← h1, ← h2] at F
  refine ⟨d.name, d.params, d.body, d.scope, [], _, fd, F, scope_ok h3, h4, fun j j1 j2 => ?_⟩
  rw [hf] at j2 ⊢
  rw [← h2] at hb
  exact ⟨[], [], .nil, F.bindsN hb, fun W => by rw [List.drop_nil]; rfl⟩
/-- a def with defaults -/
theorem fnd_dfl {G : Prog} {K : PySem.W.Frag} {mg : Str → Option Value} {f : Fn} {d : He.DefD} (F : ∃ fd, FunD K d.name d.qual d.params d.body d.scope (d.dvs K) (d.kws K) (He.fAd K d.at_) fd) (hd : d.dfl.length = f.dfl.length) (hn : d.dfl ≠ []) (hB : defB G f d = true)
    (hr : ∀ W : Wd, Reps K mg W f.dfl (d.dvs K))
    (hb : ∀ j, j ≤ f.ps.length → f.ps.length ≤ j + f.dfl.length → ∀ (T : Addr) (kV doc pm : Value) (an : Option Addr) (cdv ct : Value) (us its : List Value), us.length = j → its.length = f.dfl.length →
      ∃ k, bindArgs (PySem.W.fnOf d.name d.qual d.params d.body d.scope (.ref T) kV doc pm an cdv ct) ⟨us, []⟩ = seqItems? (.ref T) >>= k ∧ k (some its.toArray) = pure (f.ps.zip (us ++ its.drop (j + f.dfl.length - f.ps.length)))) : FnD G K mg f := by
  obtain ⟨fd, F⟩ := F
  unfold defB at hB
  simp only [Bool.and_eq_true, decide_eq_true_eq] at hB
  obtain ⟨h1, h2, h3, h4⟩ := hB
  have el : (d.dvs K).length = f.dfl.length := by unfold He.DefD.dvs; rw [List.length_map, hd]
  rw [← h1, ← h2] at F
  rw [← h2] at hb
  refine ⟨d.name, d.params, d.body, d.scope, _, _, fd, F, scope_ok h3, h4, fun j j1 j2 => ?_⟩
  obtain ⟨ds, v, b⟩ := F.binds1 j (j + f.dfl.length - f.ps.length) (by unfold He.DefD.dvs; intro e; exact hn (List.map_eq_nil_iff.mp e)) (by rw [el]; omega) (fun T kV doc pm an cdv ct us its l1 l2 => hb j j1 j2 T kV doc pm an cdv ct us its l1 (by rw [l2, el]))
  exact ⟨_, ds, v, b, fun W => (hr W).drop _⟩
end Dp
end

section
set_option Elab.async false
set_option linter.all false
set_option maxRecDepth 100000
set_option maxHeartbeats 4000000
/-! The deep layer, part 22: the head's facts of the exceptions' classes. -/
namespace Dp
open PySem PySem.Spec PyProof.Rows L2
structure XD where
  cls : Str
  fl : Str
  qual : Str
  y : Str
  st : Stmt
abbrev XW : Type := Option (Str × Str × Arguments × FuncBody × Scope × Addr × List Str × Addr)
def xfA (K : PySem.W.Frag) (c : Str) : Addr := He.ma K (He.ga K c) "__init__"
def xfW (K : PySem.W.Frag) (c : Str) : XW := match K.lookup (xfA K c) with
  | some ⟨_, _, .func fd, _⟩ => some (fd.name, fd.qualname, fd.params, fd.body, fd.scope, fd.globals, fd.closure.map (·.1), fd.builtins)
  | _ => none
def XD.val (d : XD) : XW := some ("__init__", d.qual, defArgs d.st, .stmts (defBody d.st), defScope d.st, mainGlobals, ["__class__"], builtinsNs)
def oexB (K : PySem.W.Frag) (C : Addr) : Bool := (match K.lookup C with
  | some ⟨.type t, _, .cls cd, sl⟩ => (match cd.mro, sl.toList with
    | .ref C' :: bm, [_, _, _, _, some (.builtin n), _] => decide (t = "type") && (decide (C' = C) && (decide (n = "ValueError.__new__") && (!cd.hasDel && (cd.hasDict && PySem.HandSPX.refsVE bm))))
    | _, _ => false)
  | _ => false) && (decide (PySem.W.findIn K (.ref C) "__setattr__" = some (some (.builtin "object.__setattr__"))) && (decide (PySem.W.subIn K (.ref C) (.type "BaseException") = some true) && (decide (PySem.W.typeIn K (.ref C) = some (.type "type")) && PySem.W.keepIn K (.ref C))))
theorem oexB_ok {K : PySem.W.Frag} {C : Addr} (h : oexB K C = true) : OexC K C := by
  unfold oexB at h
  simp only [Bool.and_eq_true, decide_eq_true_eq] at h
  obtain ⟨h1, h2, h3, h4, h5⟩ := h
  refine ⟨?_, h2, h3, h4, h5⟩
  split at h1
  · rename_i t dd cd sl e
    split at h1
    · rename_i C' bm x0 x1 x2 x3 n x5 e1 e2
      simp only [Bool.and_eq_true, decide_eq_true_eq, Bool.not_eq_true'] at h1
      obtain ⟨q1, q2, q3, q4, q5, q6⟩ := h1
      obtain ⟨nm, bs, mro, ns, qn, hd, sn, sub, ab, col, del⟩ := cd
      dsimp only at e1 q4 q5
      subst q1 q2 q3 q4 q5 e1
      obtain ⟨sl⟩ := sl
      dsimp only at e2
      subst e2
      exact ⟨_, _, _, _, _, _, _, _, _, _, _, _, _, _, _, e, q6⟩
    · cases h1
  · cases h1
def codB (file : Str) (K : PySem.W.Frag) (cda : Addr) : Bool := match K.lookup cda with
  | some ⟨_, _, .fields vs, _⟩ => (match (vs[2]? : Option Value) with | some (.str f _) => file == f | _ => false)
  | _ => false
def celB (K : PySem.W.Frag) (cc C : Addr) : Bool := match K.lookup cc with
  | some ⟨_, _, .cell (some (.ref c)), _⟩ => decide (c = C)
  | _ => false
def xinB (file : Str) (K : PySem.W.Frag) (d : XD) : Bool := match K.lookup (xfA K d.cls) with
  | some ⟨_, _, .func fd, _⟩ => (match fd.code, fd.closure, fd.defaults with
    | .ref cda, [p], .none => codB file K cda && (celB K p.2 (He.ga K d.cls) && PySem.W.codeIn K (.ref cda) d.qual)
    | _, _, _ => false)
  | _ => false
def xiB (file : Str) (K : PySem.W.Frag) (d : XD) : Bool :=
  xinB file K d && ((He.Fa.free "super").ok K && ((He.Fa.glo d.cls).ok K && (oexB K (He.ga K d.cls) && (xfB K (He.ga K d.cls) && (decide (PySem.W.findIn K (.ref (He.ga K d.cls)) d.fl = some none) && (decide (PySem.W.typeIn K (.ref (xfA K d.cls)) = some (.type "function")) && (decide (PySem.W.findIn K (.ref (He.ga K d.cls)) "__init__" = some (some (.ref (xfA K d.cls)))) &&
  (decide (PySem.W.mroIn K (He.ga K d.cls) (.ref (He.ga K d.cls)) = some true) && (decide (PySem.W.ks_superIn K (He.ga K d.cls) (He.ga K d.cls) "__init__" = some (some (.builtin "ValueError.__init__"))) && (decide (PySem.W.subIn K (.ref (He.ga K d.cls)) (.type "ValueError") = some true) && (decide (PySem.W.nsIn K cStatics "thirdparty.any" = some none) &&
  PySem.W.excInitIn K (He.ga K d.cls) [.type "ValueError", .type "Exception", .type "BaseException", .type "object"] "ValueError.__new__")))))))))))
def xsB (d : XD) : Bool := (match ((defArgs d.st).posonlyargs ++ (defArgs d.st).args).head? with
    | some ar => decide (ar.arg = ("self" : Str))
    | none => false) && (decide ((defScope d.st).names.lookup ("super" : Str) = some .globalImplicit) && (decide ((defScope d.st).names.lookup ("__class__" : Str) = some .free) && (decide ((defScope d.st).names.lookup ("self" : Str) = some .local) &&
  (decide ((defScope d.st).kind = .function) && (decide ((defScope d.st).names.lookup d.y = some .local) && (!(defScope d.st).isCoroutine && (!(defScope d.st).isGenerator && ((defScope d.st).names.all (fun z => match z.2 with | .cell => false | _ => true) && (decide (d.y ≠ "self") && !(d.y == ("__debug__" : Str)))))))))))
/-- what the text of the __init__ says -/
def XT (d : XD) : Prop := ∃ (tx : Str) (j : Nat) (p0 p1 p2 p3 p4 p5 p6 p7 p8 p9 : Pos),
  defBody d.st = [.Expr (.Call (.Attribute (.Call (.Name "super" p0) [] [] p1) "__init__" p2) [.Constant (.str tx) j p3] [] p4) p5, .Assign [.Attribute (.Name "self" p6) d.fl p7] (.Name d.y p8) p9] ∧
  (∀ (kV doc pm ct : Value) (an : Option Addr) (cda cc : Addr) (us : List Value), us.length = 2 → bindArgs (PySem.W.ksFn "__init__" d.qual (defArgs d.st) (defBody d.st) (defScope d.st) .none kV doc pm an (.ref cda) ct cc) ⟨us, []⟩ = pure ((["self", d.y] : List Str).zip us)) ∧
  ∀ (L fI cda cc : Addr), swapsWith (.Call (.Attribute (.Call (.Name "super" p0) [] [] p1) "__init__" p2) [.Constant (.str tx) j p3] [] p4) none p5.line (PySem.W.ksEnv d.qual (defScope d.st) L fI (.ref cda) cc) = pure false ∧ interactive (PySem.W.ksEnv d.qual (defScope d.st) L fI (.ref cda) cc) = false ∧
      swapsWith (.Name d.y p8) (some (.Attribute (.Name "self" p6) d.fl p7)) p9.line (PySem.W.ksEnv d.qual (defScope d.st) L fI (.ref cda) cc) = pure false ∧
      (∃ pl : Sem Bool, eval (.Call (.Attribute (.Call (.Name "super" p0) [] [] p1) "__init__" p2) [.Constant (.str tx) j p3] [] p4) (PySem.W.ksEnv d.qual (defScope d.st) L fI (.ref cda) cc) = (do
        let ov ← attributeBase (.Call (.Name "super" p0) [] [] p1) "__init__" (PySem.W.ksEnv d.qual (defScope d.st) L fI (.ref cda) cc) (eval (.Call (.Name "super" p0) [] [] p1) (PySem.W.ksEnv d.qual (defScope d.st) L fI (.ref cda) cc))
        standAt p2.atName
        let (fx, first) ← holding [ov] (getMethod ov "__init__" pl)
        callWith p4 fx first (backTo p4 (starEach [.Constant (.str tx) j p3] (PySem.W.ksEnv d.qual (defScope d.st) L fI (.ref cda) cc))) [])) ∧
      backTo p4 (starEach [.Constant (.str tx) j p3] (PySem.W.ksEnv d.qual (defScope d.st) L fI (.ref cda) cc)) = [(false, eval (.Constant (.str tx) j p3) (PySem.W.ksEnv d.qual (defScope d.st) L fI (.ref cda) cc))]
theorem xini {P : Program} {K : PySem.W.Frag} {h : Heap} {mg : Str → Option Value} {d : XD} (X : K.In h) (N : h.Ns mainGlobals mg) (hW : xfW K d.cls = d.val) (hB : xiB P.main.file K d = true) (hS : xsB d = true) (hT : XT d) (top : (P.main.scope.names.lookup ("super" : Str)).isSome = false) :
    XIni P K mg (He.ga K d.cls) d.fl ∧ mg d.cls = some (.ref (He.ga K d.cls)) ∧ XfC K (He.ga K d.cls) ∧ PySem.W.findIn K (.ref (He.ga K d.cls)) d.fl = some none := by
  unfold xiB at hB
  simp only [Bool.and_eq_true, decide_eq_true_eq] at hB
  obtain ⟨b1, b2, b3, b4, b5, b6, b7, b8, b9, b10, b11, b12, b13⟩ := hB
  refine ⟨?_, He.glo_ok X N b3, xfB_ok b5, b6⟩
  unfold xsB at hS
  simp only [Bool.and_eq_true, decide_eq_true_eq, Bool.not_eq_true', List.all_eq_true] at hS
  obtain ⟨s1, s2, s3, s4, s5, s6, s7, s8, s9, s10, s11⟩ := hS
  obtain ⟨tx, j, p0, p1, p2, p3, p4, p5, p6, p7, p8, p9, t1, t2, t3⟩ := hT
  have ox := oexB_ok b4
  unfold xfW at hW
  unfold xinB at b1
  cases q : K.lookup (xfA K d.cls) with
  | none => rw [q] at b1; cases b1
  | some o =>
    obtain ⟨oc, od, dt, osl⟩ := o
    rw [q] at b1 hW
    cases dt with
    | func fd =>
      dsimp only at b1 hW
      split at b1
      · rename_i cda pc e1 e2 e3
        simp only [Bool.and_eq_true] at b1
        obtain ⟨c1, c2, c3⟩ := b1
        obtain ⟨x, cc⟩ := pc
        unfold XD.val at hW
        injection hW with hW
        simp only [Prod.mk.injEq] at hW
        obtain ⟨w1, w2, w3, w4, w5, w6, w7, w8⟩ := hW
        rw [e2] at w7
        obtain rfl : x = "__class__" := by simpa using w7
        obtain ⟨cd, hcd⟩ : ∃ cd, PySem.W.clsIn K (He.ga K d.cls) = some cd := by
          obtain ⟨_, _, _, _, _, _, _, _, _, _, _, _, _, _, _, e, _⟩ := ox.cls
          unfold PySem.W.clsIn
          rw [e]
          exact ⟨_, rfl⟩
        have efd : fd = PySem.W.ksFn "__init__" d.qual (defArgs d.st) (defBody d.st) (defScope d.st) .none fd.kwdefaults fd.doc fd.pyModule fd.annotations (.ref cda) fd.closureTuple cc := by
          obtain ⟨n1, n2, n3, n4, n5, n6, n7, n8, n9, n10, n11, n12, n13, n14, n15⟩ := fd
          dsimp only at w1 w2 w3 w4 w5 w6 w8 e1 e2 e3
          subst w1 w2 w3 w4 w5 w6 w8 e1 e2 e3
          rfl
        rw [efd] at q
        rw [t1] at q t2
        refine ⟨xfA K d.cls, cda, cc, "__init__", d.qual, defArgs d.st, defScope d.st, .none, fd.kwdefaults, fd.doc, fd.pyModule, fd.closureTuple, fd.annotations, tx, d.y, j, p0, p1, p2, p3, p4, p5, p6, p7, p8, p9, ?_, ⟨_, _, _, q⟩, fun us hl => t2 _ _ _ _ _ _ _ us hl, s10, s11, b8, b7, fun L => t3 L (xfA K d.cls) cda cc⟩
        refine { lf := ⟨_, _, _, q⟩, par := ?_, code := ?_, cell := ?_, cls := ⟨cd, hcd⟩, sub := b9, nosup := He.free_ok X N b2, ks := s2, kc := s3, ka := s4, kk := s5, top := top, rec_ := c3, nocell := ?_, loc := s6, co := s7, gen := s8, sup := b10, ve := b11, third := b12, ini := b13, ox := ox, nofl := b6 }
        · cases ea : ((defArgs d.st).posonlyargs ++ (defArgs d.st).args).head? with
          | none => rw [ea] at s1; cases s1
          | some ar =>
            rw [ea] at s1
            exact ⟨ar, rfl, of_decide_eq_true s1⟩
        · unfold codB at c1
          split at c1
          · rename_i ccl cdd vs ccs e
            split at c1
            · rename_i f tf e5
              exact ⟨_, _, _, _, f, tf, e, e5, c1⟩
            · cases c1
          · cases c1
        · unfold celB at c2
          split at c2
          · rename_i cl cld c csl e
            have := of_decide_eq_true c2
            subst this
            exact ⟨_, _, _, e⟩
          · cases c2
        · intro z hz e
          have := s9 z hz
          rw [e] at this
          cases this
      · cases b1
    | _ => cases b1
/-! ### the Hook -/
def exmB (G : Prog) (K : PySem.W.Frag) : Bool := G.exm.all fun p => decide (PySem.W.exmOne K (.ref (He.ga K p.1.1)) (.ref (He.ga K p.1.2)) = some p.2) && (He.Fa.glo p.1.2).ok K
abbrev AlX : Type := He.AlD × (Bool × List XW)
def obsX (ex : PySem.W.Frag → Bool) (G : Prog) (fn : List He.DefD) (file : Str) (xs : List XD) (K : PySem.W.Frag) : AlX := (obsP ex G fn K, exmB G K && xs.all fun d => xiB file K d, xs.map fun d => xfW K d.cls)
def valX (fn : List He.DefD) (xs : List XD) : AlX := (He.valD fn, true, xs.map XD.val)
def SaysX (ex : PySem.W.Frag → Bool) (G : Prog) (fn : List He.DefD) (file : Str) (xs : List XD) (K : PySem.W.Frag) : Prop := obsX ex G fn file xs K = valX fn xs
def asX (g : Addr → Option Obj) (n : Nat) : List Addr := He.asD g n ++ [cStatics]
def obsXG (n : Nat) (ex : PySem.W.Frag → Bool) (G : Prog) (fn : List He.DefD) (file : Str) (xs : List XD) (g : Addr → Option Obj) : AlX := obsX ex G fn file xs (He.frG g (asX g n))
def hookX (n : Nat) (ex : PySem.W.Frag → Bool) (G : Prog) (fn : List He.DefD) (file : Str) (xs : List XD) : PySem.W.Hook where
  α := AlX
  obs := fun s => obsXG n ex G fn file xs s.heap.get?
  val := fun _ => valX fn xs
  says := fun _ h => ∃ K : PySem.W.Frag, K.In h ∧ SaysX ex G fn file xs K
  of := fun _ _ e => ⟨_, He.frG_in, e⟩
  keeps := fun _ _ _ ⟨K, hK, c⟩ k => ⟨K, PySem.W.Frag.In.keeps hK k, c⟩
theorem obsXG_eq {n : Nat} {ex : PySem.W.Frag → Bool} {G : Prog} {fn : List He.DefD} {file : Str} {xs : List XD} {g : Addr → Option Obj} {s : Shared} (h : ∀ a, g a = s.heap.get? a) : obsXG n ex G fn file xs g = (hookX n ex G fn file xs).obs s := by
  have e : g = s.heap.get? := funext h
  rw [e] <;> rfl
theorem SaysX.p {ex : PySem.W.Frag → Bool} {G : Prog} {fn : List He.DefD} {file : Str} {xs : List XD} {K : PySem.W.Frag} (c : SaysX ex G fn file xs K) : SaysP ex G fn K := congrArg (fun z : AlX => z.1) c
theorem SaysX.xx {ex : PySem.W.Frag → Bool} {G : Prog} {fn : List He.DefD} {xs : List XD} {K : PySem.W.Frag} {P : Program} {h : Heap} {mg : Str → Option Value} (c : SaysX ex G fn P.main.file xs K) (X : K.In h) (N : h.Ns mainGlobals mg) (he : G.exs = xs.map fun d => (d.cls, d.fl))
    (hS : ∀ d ∈ xs, xsB d = true ∧ XT d) (top : (P.main.scope.names.lookup ("super" : Str)).isSome = false) : Xx G P K mg := by
  have c1 : (exmB G K && xs.all fun d => xiB P.main.file K d) = true := congrArg (fun z : AlX => z.2.1) c
  have c2 : xs.map (fun d => xfW K d.cls) = xs.map XD.val := congrArg (fun z : AlX => z.2.2) c
  obtain ⟨m1, m2⟩ := Bool.and_eq_true_iff.mp c1
  refine ⟨fun p hp => ?_, fun p hp => ?_⟩
  · rw [he] at hp
    obtain ⟨d, hd, rfl⟩ := List.mem_map.mp hp
    exact xini X N (List.map_inj_left.mp c2 d hd) (List.all_eq_true.mp m2 d hd) (hS d hd).1 (hS d hd).2 top
  · obtain ⟨q1, q2⟩ := Bool.and_eq_true_iff.mp (List.all_eq_true.mp m1 p hp)
    exact ⟨of_decide_eq_true q1, He.glo_ok X N q2⟩
end Dp
end

section
set_option Elab.async false
set_option linter.all false
set_option maxRecDepth 100000
set_option maxHeartbeats 0
namespace K94
open PySem PySem.Spec PyProof.Rows L2 Dp
/-! ### the text -/
def top (i : Nat) : Stmt := PySem.Challenge.pw_onlyfilling_k89_mends_counted.main.body.getD i (.Pass ⟨0, 0, 0, 0⟩)
def mth (i j : Nat) : Stmt := match top i with
  | .ClassDef _ _ _ body _ _ _ _ _ _ _ => body.getD j (.Pass ⟨0, 0, 0, 0⟩)
  | _ => .Pass ⟨0, 0, 0, 0⟩
def l_0_0 : Ss := (.cons (.asg (.tl [9, 10, 4, 11]) (.call 5 (.cons (.var 1) (.cons (.var 2) .nil))))
      (.cons (.ife (.not (.e (.e (.call 34 (.cons (.var 9) (.cons (.var 10) (.cons (.var 4) (.cons (.var 11) (.cons (.lst (.cons (.call 3 (.cons (.var 1) (.cons (.int 7) .nil))) (.cons (.bin .mul (.e (.int 2)) (.e (.var 2))) .nil))) .nil)))))))))
      (.cons (.ret (.bl false))
      .nil)
      .nil)
      (.cons (.ife (.or (.cons (.cmp .ne (.e (.call 35 (.cons (.var 9) (.cons (.var 4) (.cons (.var 11) (.cons (.int 7) .nil)))))) (.e (.lst (.cons (.str "number") (.cons (.int 7) .nil))))) (.cons (.cmp .ne (.e (.call 35 (.cons (.var 9) (.cons (.var 4) (.cons (.var 11) (.cons (.neg (.int 1)) .nil)))))) (.e (.lst (.cons (.str "number") (.cons (.neg (.int 1)) .nil))))) .nil)))
      (.cons (.ret (.bl false))
      .nil)
      .nil)
      (.cons (.asg (.nm 7) (.call 3 (.cons (.var 1) (.cons (.bin .add (.e (.bif .len (.cons (.e (.var 11)) .nil))) (.e (.int 1))) .nil))))
      (.cons (.asg (.nm 8) (.bin .add (.e (.bin .add (.e (.slc (.e (.var 11)) .none (.some (.var 7)))) (.e (.lst (.cons (.idx (.e (.var 4)) (.call 3 (.cons (.var 1) (.cons (.bif .len (.cons (.e (.var 4)) .nil)) .nil)))) .nil))))) (.e (.slc (.e (.var 11)) (.some (.var 7)) .none))))
      (.cons (.ife (.cmp .ne (.e (.call 35 (.cons (.var 9) (.cons (.var 4) (.cons (.var 8) (.cons (.int 1) .nil)))))) (.e (.lst (.cons (.str "place") (.cons (.var 7) .nil)))))
      (.cons (.ret (.bl false))
      .nil)
      .nil)
      (.cons (.ife (.not (.e (.e (.call 37 (.cons (.var 1) (.cons (.var 9) (.cons (.var 10) (.cons (.var 4) (.cons (.var 11) .nil)))))))))
      (.cons (.ret (.bl false))
      .nil)
      .nil)
      .nil)))))))
/-- law -/
def b_0 : Ss := (.cons (.asgM 1 (.call 1 (.cons (.var 0) .nil)))
      (.cons (.for_ (.nm 2) (.rng1 (.int 3)) l_0_0 [2, 7, 8, 9, 10, 11])
      (.cons (.ife (.or (.cons (.cmp .ne (.e (.call 10 (.cons (.int 3) (.cons (.lst (.cons (.tup .nil) .nil)) (.cons (.lst .nil) .nil))))) (.e (.tup (.cons (.tup (.cons (.int 0) (.cons (.int 1) .nil))) .nil)))) (.cons (.cmp .ne (.e (.call 10 (.cons (.int 2) (.cons (.lst (.cons (.bin .mul (.e (.tup (.cons (.int 0) .nil))) (.e (.int 20))) .nil)) (.cons (.lst (.cons (.bin .mul (.e (.tup (.cons (.int 1) .nil))) (.e (.int 20))) .nil)) .nil))))) (.e (.tup (.cons (.tup (.cons (.int 20) (.cons (.int 1) .nil))) (.cons (.tup (.cons (.int 19) (.cons (.neg (.int 1)) .nil))) .nil))))) .nil)))
      (.cons (.ret (.bl false))
      .nil)
      .nil)
      (.cons (.asgM 3 (.call 4 (.cons (.int 2) (.cons (.int 4) .nil))))
      (.cons (.asg (.nm 4) (.lst (.cons (.mpopI (.var 3) (.call 3 (.cons (.var 1) (.cons (.int 16) .nil)))) .nil)))
      (.cons (.asg (.nm 5) (.call 3 (.cons (.var 1) (.cons (.int 5) .nil))))
      (.cons (.asg (.nm 6) (.bin .add (.e (.slc (.e (.var 3)) (.some (.var 5)) .none)) (.e (.slc (.e (.var 3)) .none (.some (.var 5))))))
      (.cons (.ife (.or (.cons (.cmp .ne (.e (.call 35 (.cons (.int 2) (.cons (.var 4) (.cons (.slc (.e (.var 6)) .none (.some (.int 11))) (.cons (.int 1) .nil)))))) (.e (.lst (.cons (.str "limit") (.cons (.int 10) .nil))))) (.cons (.cmp .ne (.e (.call 36 (.cons (.int 2) (.cons (.var 4) (.cons (.var 6) .nil))))) (.e (.lst (.cons (.str "limit") (.cons (.int 10) .nil))))) .nil)))
      (.cons (.ret (.bl false))
      .nil)
      .nil)
      (.cons (.ife (.cmp .eq (.e (.call 3 (.cons (.var 1) (.cons (.int 29) .nil)))) (.e (.int 28)))
      (.cons (.ret (.call 34 (.cons (.int 2) (.cons (.int 4) (.cons (.var 4) (.cons (.slc (.e (.var 6)) .none (.some (.int 10))) (.cons (.lst (.cons (.int 2) .nil)) .nil)))))))
      .nil)
      .nil)
      (.cons (.ret (.call 34 (.cons (.int 3) (.cons (.int 2) (.cons (.lst (.cons (.tup (.cons (.int 0) (.cons (.int 0) .nil))) .nil)) (.cons (.lst (.cons (.tup (.cons (.int 1) (.cons (.int 0) .nil))) (.cons (.tup (.cons (.int 0) (.cons (.int 1) .nil))) (.cons (.tup (.cons (.int 1) (.cons (.int 1) .nil))) (.cons (.tup (.cons (.int 1) (.cons (.int 2) .nil))) .nil))))) (.cons (.lst (.cons (.int 2) .nil)) .nil)))))))
      .nil))))))))))
def f_0 : Fn := ⟨("law", none), "law", ["script"], ["script", "draws", "turn", "points", "right", "start", "eleven", "place", "spoilt", "prime", "size", "bad"], [], b_0⟩
def d_0 : He.DefD := ⟨("law", none), "law", "law", defArgs (top 47), defBody (top 47), defScope (top 47), [], []⟩
def l_1_0 : Ss := (.cons (.ife (.cmp .gt (.e (.var 3)) (.e (.int 0)))
      (.cons (.om 1 .append (.cons (.bin .mod (.e (.bif .int (.cons (.e (.var 3)) .nil))) (.e (.int 30))) .nil))
      (.cons (.asg (.nm 3) (.bin .fdiv (.e (.var 3)) (.e (.int 30))))
      .nil))
      .nil)
      .nil)
def l_1_1 : Ss := (.cons (.asg (.nm 5) (.bin .mod (.e (.bif .int (.cons (.e (.bin .add (.e (.bin .add (.e (.bin .add (.e (.bin .mul (.e (.var 5)) (.e (.var 5)))) (.e (.bin .mul (.e (.var 4)) (.e (.int 16807)))))) (.e (.var 2)))) (.e (.int 5)))) .nil))) (.e (.int 2147483629))))
      (.cons (.om 1 .append (.cons (.bin .mod (.e (.bif .int (.cons (.e (.var 5)) .nil))) (.e (.int 30))) .nil))
      .nil))
def l_1_2 : Ss := (.cons (.asg (.nm 3) (.bif .int (.cons (.e (.idx (.e (.var 0)) (.var 2))) .nil)))
      (.cons (.ife (.cmp .lt (.e (.var 3)) (.e (.int 0)))
      (.cons (.asg (.nm 3) (.bin .sub (.e (.int 3)) (.e (.var 3))))
      .nil)
      .nil)
      (.cons (.ife (.cmp .ge (.e (.var 3)) (.e (.bin .pow (.e (.int 10)) (.e (.int 18)))))
      (.cons (.for_ (.nm 4) (.rng1 (.int 40)) l_1_0 [])
      .nil)
      (.cons (.asg (.nm 5) (.bin .mod (.e (.bif .int (.cons (.e (.bin .add (.e (.bin .add (.e (.bin .mul (.e (.var 3)) (.e (.int 69621)))) (.e (.bin .mul (.e (.var 2)) (.e (.int 48271)))))) (.e (.int 11)))) .nil))) (.e (.int 2147483647))))
      (.cons (.for_ (.nm 4) (.rng1 (.int 3)) l_1_1 [])
      .nil)))
      .nil)))
/-- _law_draws -/
def b_1 : Ss := (.cons (.asgO 1 (.lst .nil))
      (.cons (.for_ (.nm 2) (.rng1 (.bif .min (.cons (.e (.bif .len (.cons (.e (.var 0)) .nil))) (.cons (.e (.int 63)) .nil)))) l_1_2 [2, 3, 4, 5])
      (.cons (.om 1 .reverse .nil)
      (.cons (.retS 1)
      .nil))))
def f_1 : Fn := ⟨("_law_draws", none), "_law_draws", ["script"], ["script", "found", "at", "cell", "turn", "mixed"], [], b_1⟩
def d_1 : He.DefD := ⟨("_law_draws", none), "_law_draws", "_law_draws", defArgs (top 30), defBody (top 30), defScope (top 30), [], []⟩
/-- _law_prime -/
def b_2 : Ss := (.cons (.asg (.nm 2) (.lc (.nm 3) [("prime", 3)] (.seq (.lst (.cons (.int 3) (.cons (.int 2) (.cons (.int 5) (.cons (.int 7) (.cons (.int 11) (.cons (.int 13) .nil)))))))) (.some (.cmp .le (.e (.var 3)) (.e (.var 1)))) (.var 3)))
      (.cons (.ret (.idx (.e (.var 2)) (.call 3 (.cons (.var 0) (.cons (.bif .len (.cons (.e (.var 2)) .nil)) .nil)))))
      .nil))
def f_2 : Fn := ⟨("_law_prime", none), "_law_prime", ["draws", "most"], ["draws", "most", "primes", "prime"], [], b_2⟩
def d_2 : He.DefD := ⟨("_law_prime", none), "_law_prime", "_law_prime", defArgs (top 33), defBody (top 33), defScope (top 33), [], []⟩
/-- _law_take -/
def b_3 : Ss := (.cons (.ife (.cmp .eq (.e (.bif .len (.cons (.e (.var 0)) .nil))) (.e (.int 0)))
      (.cons (.ret (.int 0))
      .nil)
      .nil)
      (.cons (.ret (.bin .mod (.e (.bif .int (.cons (.e (.mpop (.var 0))) .nil))) (.e (.var 1))))
      .nil))
def f_3 : Fn := ⟨("_law_take", none), "_law_take", ["draws", "many"], ["draws", "many"], [], b_3⟩
def d_3 : He.DefD := ⟨("_law_take", none), "_law_take", "_law_take", defArgs (top 31), defBody (top 31), defScope (top 31), [], []⟩
def l_4_0 : Ss := (.cons (.asgO 4 (.bin .add (.sl 4) (.e (.lc (.nm 6) [("number", 6)] (.rng1 (.var 0)) .none (.bin .add (.e (.var 5)) (.e (.tup (.cons (.var 6) .nil))))))))
      .nil)
def l_4_1 : Ss := (.cons (.asgO 4 (.lst .nil))
      (.cons (.gfz 2)
      (.cons (.for_ (.nm 5) (.seq (.var 2)) l_4_0 [5])
      (.cons (.mov 2 4)
      .nil))))
/-- _law_points -/
def b_4 : Ss := (.cons (.asgO 2 (.lst (.cons (.tup .nil) .nil)))
      (.cons (.for_ (.nm 3) (.rng1 (.var 1)) l_4_1 [3, 4, 5])
      (.cons (.retS 2)
      .nil)))
def f_4 : Fn := ⟨("_law_points", none), "_law_points", ["prime", "size"], ["prime", "size", "points", "turn", "longer", "point", "number"], [], b_4⟩
def d_4 : He.DefD := ⟨("_law_points", none), "_law_points", "_law_points", defArgs (top 35), defBody (top 35), defScope (top 35), [], []⟩
def l_5_0 : Ss := (.cons (.ife (.cmp .gt (.e (.bif .len (.cons (.e (.var 4)) .nil))) (.e (.int 1)))
      (.cons (.om 5 .append (.cons (.mpopI (.var 4) (.call 9 (.cons (.var 0) (.cons (.bif .len (.cons (.e (.var 4)) .nil)) .nil)))) .nil))
      .nil)
      .nil)
      .nil)
def l_5_1 : Ss := (.cons (.ife (.cmp .gt (.e (.bif .len (.cons (.e (.var 4)) .nil))) (.e (.int 0)))
      (.cons (.om 7 .append (.cons (.mpopI (.var 4) (.call 9 (.cons (.var 0) (.cons (.bif .len (.cons (.e (.var 4)) .nil)) .nil)))) .nil))
      .nil)
      .nil)
      .nil)
/-- _law_right_and_bad -/
def b_5 : Ss := (.cons (.asg (.nm 2) (.call 2 (.cons (.var 0) (.cons (.int 3) .nil))))
      (.cons (.asg (.nm 3) (.bin .add (.e (.int 1)) (.e (.call 3 (.cons (.var 0) (.cons (.int 3) .nil))))))
      (.cons (.ife (.cmp .eq (.e (.call 3 (.cons (.var 0) (.cons (.int 12) .nil)))) (.e (.int 11)))
      (.cons (.asg (.nm 2) (.int 5))
      (.cons (.asg (.nm 3) (.bif .min (.cons (.e (.var 3)) (.cons (.e (.int 2)) .nil))))
      .nil))
      .nil)
      (.cons (.ife (.cmp .eq (.e (.var 2)) (.e (.int 2)))
      (.cons (.asg (.nm 3) (.bin .add (.e (.var 3)) (.e (.call 3 (.cons (.var 0) (.cons (.int 2) .nil))))))
      .nil)
      .nil)
      (.cons (.asgM 4 (.call 4 (.cons (.var 2) (.cons (.var 3) .nil))))
      (.cons (.asgO 5 (.lst .nil))
      (.cons (.for_ (.nm 6) (.rng1 (.bin .add (.e (.int 1)) (.e (.call 3 (.cons (.var 0) (.cons (.int 3) .nil)))))) l_5_0 [])
      (.cons (.asgO 7 (.lst .nil))
      (.cons (.for_ (.nm 6) (.rng1 (.bin .add (.e (.var 1)) (.e (.call 3 (.cons (.var 0) (.cons (.int 3) .nil)))))) l_5_1 [])
      (.cons (.ife (.and (.cons (.cmp .gt (.e (.bif .len (.cons (.sl 7) .nil))) (.e (.int 0))) (.cons (.cmp .eq (.e (.call 3 (.cons (.var 0) (.cons (.int 4) .nil)))) (.e (.int 3))) .nil)))
      (.cons (.om 7 .append (.cons (.idx (.sl 7) (.int 0)) .nil))
      .nil)
      .nil)
      (.cons (.gfz 7)
      (.cons (.gfz 5)
      (.cons (.ret (.lst (.cons (.var 2) (.cons (.var 3) (.cons (.var 5) (.cons (.var 7) .nil))))))
      .nil)))))))))))))
def f_5 : Fn := ⟨("_law_right_and_bad", none), "_law_right_and_bad", ["draws", "turn"], ["draws", "turn", "prime", "size", "left", "right", "place", "bad"], [], b_5⟩
def d_5 : He.DefD := ⟨("_law_right_and_bad", none), "_law_right_and_bad", "_law_right_and_bad", defArgs (top 41), defBody (top 41), defScope (top 41), [], []⟩
def l_6_0 : Ss := (.cons (.asg (.nm 2) (.bin .mul (.e (.var 2)) (.e (.var 0))))
      .nil)
/-- _law_power -/
def b_6 : Ss := (.cons (.asg (.nm 2) (.int 1))
      (.cons (.for_ (.nm 3) (.rng1 (.var 1)) l_6_0 [3])
      (.cons (.ret (.var 2))
      .nil)))
def f_6 : Fn := ⟨("_law_power", none), "_law_power", ["base", "exponent"], ["base", "exponent", "answer", "turn"], [], b_6⟩
def d_6 : He.DefD := ⟨("_law_power", none), "_law_power", "_law_power", defArgs (top 34), defBody (top 34), defScope (top 34), [], []⟩
/-- _law_sum -/
def b_7 : Ss := (.cons (.asg (.nm 3) (.lc (.nm 4) [("at", 4)] (.rng1 (.bif .len (.cons (.e (.var 2)) .nil))) (.some (.cmp .ne (.e (.bin .mod (.e (.bif .int (.cons (.e (.idx (.e (.var 2)) (.var 4))) .nil))) (.e (.var 0)))) (.e (.int 0)))) (.tup (.cons (.var 4) (.cons (.bin .mod (.e (.bif .int (.cons (.e (.idx (.e (.var 2)) (.var 4))) .nil))) (.e (.var 0))) .nil)))))
      (.cons (.ret (.tup (.cons (.bin .mod (.e (.bif .int (.cons (.e (.var 1)) .nil))) (.e (.var 0))) (.cons (.bif .tuple (.cons (.e (.var 3)) .nil)) .nil))))
      .nil))
def f_7 : Fn := ⟨("_law_sum", none), "_law_sum", ["prime", "constant", "numbers"], ["prime", "constant", "numbers", "pairs", "at"], [], b_7⟩
def d_7 : He.DefD := ⟨("_law_sum", none), "_law_sum", "_law_sum", defArgs (top 36), defBody (top 36), defScope (top 36), [], []⟩
def l_8_0 : Ss := (.cons (.aug 3 .add (.bin .mul (.e (.var 5)) (.e (.idx (.e (.var 2)) (.var 4)))))
      .nil)
/-- _law_sum_at -/
def b_8 : Ss := (.cons (.asg (.nm 3) (.idx (.e (.var 1)) (.int 0)))
      (.cons (.for_ (.tp [4, 5]) (.seq (.idx (.e (.var 1)) (.int 1))) l_8_0 [4, 5])
      (.cons (.ret (.bin .mod (.e (.bif .int (.cons (.e (.var 3)) .nil))) (.e (.var 0))))
      .nil)))
def f_8 : Fn := ⟨("_law_sum_at", none), "_law_sum_at", ["prime", "one", "point"], ["prime", "one", "point", "total", "at", "number"], [], b_8⟩
def d_8 : He.DefD := ⟨("_law_sum_at", none), "_law_sum_at", "_law_sum_at", defArgs (top 37), defBody (top 37), defScope (top 37), [], []⟩
/-- _law_far -/
def b_9 : Ss := (.cons (.asg (.nm 2) (.call 3 (.cons (.var 0) (.cons (.int 30) .nil))))
      (.cons (.ret (.bin .mod (.e (.bif .int (.cons (.e (.bin .add (.e (.bin .mul (.e (.var 2)) (.e (.int 30)))) (.e (.call 3 (.cons (.var 0) (.cons (.int 30) .nil)))))) .nil))) (.e (.var 1))))
      .nil))
def f_9 : Fn := ⟨("_law_far", none), "_law_far", ["draws", "many"], ["draws", "many", "high"], [], b_9⟩
def d_9 : He.DefD := ⟨("_law_far", none), "_law_far", "_law_far", defArgs (top 38), defBody (top 38), defScope (top 38), [], []⟩
/-- mend_numbers -/
def b_10 : Ss := (.cons (.asg (.nm 3) (.call 11 (.cons (.var 0) (.cons (.var 1) .nil))))
      (.cons (.asg (.nm 4) (.call 15 (.cons (.var 0) (.cons (.var 3) (.cons (.var 2) .nil)))))
      (.cons (.ife (.cmp .gt (.e (.bif .len (.cons (.e (.var 4)) .nil))) (.e (.gint "_MOST_BAD" 10)))
      (.cons (.rse "TooMany" (.gint "_MOST_BAD" 10))
      .nil)
      .nil)
      (.cons (.asg (.nm 5) (.new "Space" 16 (.cons (.var 0) (.cons (.bin .add (.e (.bif .len (.cons (.e (.idx (.e (.var 3)) (.int 0))) .nil))) (.e (.int 1))) (.cons (.lc (.nm 6) [("point", 6)] (.seq (.var 3)) .none (.bin .add (.e (.var 6)) (.e (.tup (.cons (.int 1) .nil))))) .nil)))))
      (.cons (.ret (.call 23 (.cons (.var 5) (.cons (.lc (.nm 6) [("point", 6)] (.seq (.var 4)) .none (.bin .add (.e (.var 6)) (.e (.tup (.cons (.int 1) .nil))))) .nil))))
      .nil)))))
def f_10 : Fn := ⟨("mend_numbers", none), "mend_numbers", ["prime", "right", "bad"], ["prime", "right", "bad", "points", "wrong", "space", "point"], [], b_10⟩
def d_10 : He.DefD := ⟨("mend_numbers", none), "mend_numbers", "mend_numbers", defArgs (top 27), defBody (top 27), defScope (top 27), [], []⟩
def l_11_0 : Ss := (.cons (.ife (.not (.e (.e (.call 14 (.cons (.var 0) (.cons (.bif .len (.cons (.e (.idx (.e (.var 1)) (.int 0))) .nil)) (.cons (.var 3) .nil)))))))
      (.cons (.rse "BadPoint" (.var 2))
      .nil)
      .nil)
      .nil)
/-- _need_right -/
def b_11 : Ss := (.cons (.ex (.call 12 (.cons (.var 0) .nil)))
      (.cons (.ife (.or (.cons (.not (.e (.e (.isis (.var 1) [(.bt "list"), (.bt "tuple")])))) (.cons (.not (.e (.e (.var 1)))) .nil)))
      (.cons (.rse "BadPoint" (.neg (.int 1)))
      .nil)
      .nil)
      (.cons (.ife (.or (.cons (.not (.e (.e (.isis (.idx (.e (.var 1)) (.int 0)) [(.bt "list"), (.bt "tuple")])))) (.cons (.cmp .gt (.e (.bif .len (.cons (.e (.idx (.e (.var 1)) (.int 0))) .nil))) (.e (.int 90))) .nil)))
      (.cons (.rse "BadPoint" (.int 0))
      .nil)
      .nil)
      (.cons (.for_ (.tp [2, 3]) (.enum (.var 1)) l_11_0 [2])
      (.cons (.ret (.lc (.nm 3) [("point", 3)] (.seq (.var 1)) .none (.bif .tuple (.cons (.e (.var 3)) .nil))))
      .nil)))))
def f_11 : Fn := ⟨("_need_right", none), "_need_right", ["prime", "right"], ["prime", "right", "at", "point"], [], b_11⟩
def d_11 : He.DefD := ⟨("_need_right", none), "_need_right", "_need_right", defArgs (top 21), defBody (top 21), defScope (top 21), [], []⟩
/-- check_prime -/
def b_12 : Ss := (.cons (.ife (.or (.cons (.not (.e (.e (.call 13 (.cons (.var 0) .nil))))) (.cons (.cmp .nin (.e (.var 0)) (.e (.tup (.cons (.int 2) (.cons (.int 3) (.cons (.int 5) (.cons (.int 7) (.cons (.int 11) (.cons (.int 13) .nil))))))))) .nil)))
      (.cons (.rse "BadPrime" (.var 0))
      .nil)
      .nil)
      (.cons (.ret (.var 0))
      .nil))
def f_12 : Fn := ⟨("check_prime", none), "check_prime", ["prime"], ["prime"], [], b_12⟩
def d_12 : He.DefD := ⟨("check_prime", none), "check_prime", "check_prime", defArgs (top 9), defBody (top 9), defScope (top 9), [], []⟩
/-- _is_integer -/
def b_13 : Ss := (.cons (.ret (.and (.cons (.isi (.var 0) (.bt "int")) (.cons (.not (.isi (.var 0) (.bt "bool"))) .nil))))
      .nil)
def f_13 : Fn := ⟨("_is_integer", none), "_is_integer", ["thing"], ["thing"], [], b_13⟩
def d_13 : He.DefD := ⟨("_is_integer", none), "_is_integer", "_is_integer", defArgs (top 8), defBody (top 8), defScope (top 8), [], []⟩
def l_14_0 : Ss := (.cons (.ife (.or (.cons (.not (.e (.e (.call 13 (.cons (.var 3) .nil))))) (.cons (.not (.chn .le .lt (.int 0) (.var 3) (.var 0))) .nil)))
      (.cons (.ret (.bl false))
      .nil)
      .nil)
      .nil)
/-- _is_number_row -/
def b_14 : Ss := (.cons (.ife (.or (.cons (.not (.e (.e (.isis (.var 2) [(.bt "list"), (.bt "tuple")])))) (.cons (.cmp .ne (.e (.bif .len (.cons (.e (.var 2)) .nil))) (.e (.var 1))) .nil)))
      (.cons (.ret (.bl false))
      .nil)
      .nil)
      (.cons (.for_ (.nm 3) (.seq (.var 2)) l_14_0 [3])
      (.cons (.ret (.bl true))
      .nil)))
def f_14 : Fn := ⟨("_is_number_row", none), "_is_number_row", ["prime", "width", "thing"], ["prime", "width", "thing", "number"], [], b_14⟩
def d_14 : He.DefD := ⟨("_is_number_row", none), "_is_number_row", "_is_number_row", defArgs (top 13), defBody (top 13), defScope (top 13), [], []⟩
def l_15_0 : Ss := (.cons (.ife (.or (.cons (.not (.e (.e (.call 14 (.cons (.var 0) (.cons (.bif .len (.cons (.e (.idx (.e (.var 1)) (.int 0))) .nil)) (.cons (.var 4) .nil))))))) (.cons (.cmp .inn (.e (.bif .tuple (.cons (.e (.var 4)) .nil))) (.e (.var 1))) .nil)))
      (.cons (.rse "BadPoint" (.var 3))
      .nil)
      .nil)
      .nil)
/-- _need_bad -/
def b_15 : Ss := (.cons (.ife (.not (.e (.e (.isis (.var 2) [(.bt "list"), (.bt "tuple")]))))
      (.cons (.rse "BadPoint" (.neg (.int 1)))
      .nil)
      .nil)
      (.cons (.for_ (.tp [3, 4]) (.enum (.var 2)) l_15_0 [3])
      (.cons (.ret (.lc (.nm 4) [("point", 4)] (.seq (.var 2)) .none (.bif .tuple (.cons (.e (.var 4)) .nil))))
      .nil)))
def f_15 : Fn := ⟨("_need_bad", none), "_need_bad", ["prime", "right", "bad"], ["prime", "right", "bad", "at", "point"], [], b_15⟩
def d_15 : He.DefD := ⟨("_need_bad", none), "_need_bad", "_need_bad", defArgs (top 22), defBody (top 22), defScope (top 22), [], []⟩
/-- Space.__init__ -/
def b_16 : Ss := (.cons (.setf 0 "prime" (.call 12 (.cons (.var 1) .nil)))
      (.cons (.ife (.or (.cons (.not (.e (.e (.call 13 (.cons (.var 2) .nil))))) (.cons (.cmp .lt (.e (.var 2)) (.e (.int 0))) .nil)))
      (.cons (.rse "BadNumber" (.var 2))
      .nil)
      .nil)
      (.cons (.setf 0 "width" (.var 2))
      (.cons (.asg (.nm 4) (.call 17 (.cons (.var 1) (.cons (.call 22 (.cons (.var 1) (.cons (.var 2) (.cons (.var 3) .nil)))) .nil))))
      (.cons (.setf 0 "rows" (.idx (.e (.var 4)) (.int 0)))
      (.cons (.setf 0 "_leads" (.idx (.e (.var 4)) (.int 1)))
      .nil))))))
def f_16 : Fn := ⟨("Space", some "__init__"), "Space.__init__", ["self", "prime", "width", "rows"], ["self", "prime", "width", "rows", "told"], [.gl "()"], b_16⟩
def d_16 : He.DefD := ⟨("Space", some "__init__"), "__init__", "Space.__init__", defArgs (mth 19 0), defBody (mth 19 0), defScope (mth 19 0), [.adr (He.dflAt ("Space", some "__init__") 0)], []⟩
def l_17_0 : Ss := (.cons (.asg (.nm 2) (.call 18 (.cons (.var 0) (.cons (.idx (.e (.var 2)) (.int 0)) (.cons (.idx (.e (.var 2)) (.int 1)) (.cons (.var 3) .nil))))))
      .nil)
/-- _reduced -/
def b_17 : Ss := (.cons (.asg (.nm 2) (.tup (.cons (.tup .nil) (.cons (.tup .nil) .nil))))
      (.cons (.for_ (.nm 3) (.seq (.var 1)) l_17_0 [3])
      (.cons (.ret (.var 2))
      .nil)))
def f_17 : Fn := ⟨("_reduced", none), "_reduced", ["prime", "rows"], ["prime", "rows", "told", "row"], [], b_17⟩
def d_17 : He.DefD := ⟨("_reduced", none), "_reduced", "_reduced", defArgs (top 18), defBody (top 18), defScope (top 18), [], []⟩
/-- _grown -/
def b_18 : Ss := (.cons (.asg (.nm 4) (.call 19 (.cons (.var 0) (.cons (.var 1) (.cons (.var 2) (.cons (.var 3) .nil))))))
      (.cons (.asg (.nm 5) (.call 20 (.cons (.var 4) .nil)))
      (.cons (.ife (.cmp .lt (.e (.var 5)) (.e (.int 0)))
      (.cons (.ret (.tup (.cons (.var 1) (.cons (.var 2) .nil))))
      .nil)
      .nil)
      (.cons (.asg (.nm 6) (.call 21 (.cons (.var 0) (.cons (.idx (.e (.var 4)) (.var 5)) (.cons (.bin .sub (.e (.var 0)) (.e (.int 2))) .nil)))))
      (.cons (.asg (.nm 7) (.bif .tuple (.cons (.e (.lc (.nm 12) [("a", 12)] (.seq (.var 4)) .none (.bin .mod (.e (.bin .mul (.e (.var 12)) (.e (.var 6)))) (.e (.var 0))))) .nil)))
      (.cons (.asg (.nm 8) (.lc (.nm 11) [("old", 11)] (.seq (.var 1)) .none (.call 19 (.cons (.var 0) (.cons (.tup (.cons (.var 7) .nil)) (.cons (.tup (.cons (.var 5) .nil)) (.cons (.var 11) .nil)))))))
      (.cons (.asg (.nm 9) (.bif .len (.cons (.e (.lc (.nm 13) [("at", 13)] (.seq (.var 2)) (.some (.cmp .lt (.e (.var 13)) (.e (.var 5)))) (.var 13))) .nil)))
      (.cons (.asg (.nm 10) (.bin .add (.e (.bin .add (.e (.bif .tuple (.cons (.e (.slc (.e (.var 8)) .none (.some (.var 9)))) .nil))) (.e (.tup (.cons (.var 7) .nil))))) (.e (.bif .tuple (.cons (.e (.slc (.e (.var 8)) (.some (.var 9)) .none)) .nil)))))
      (.cons (.ret (.tup (.cons (.var 10) (.cons (.bin .add (.e (.bin .add (.e (.slc (.e (.var 2)) .none (.some (.var 9)))) (.e (.tup (.cons (.var 5) .nil))))) (.e (.slc (.e (.var 2)) (.some (.var 9)) .none))) .nil))))
      .nil)))))))))
def f_18 : Fn := ⟨("_grown", none), "_grown", ["prime", "rows", "leads", "row"], ["prime", "rows", "leads", "row", "left", "lead", "scale", "led", "before", "many", "grown_rows", "old", "a", "at"], [], b_18⟩
def d_18 : He.DefD := ⟨("_grown", none), "_grown", "_grown", defArgs (top 17), defBody (top 17), defScope (top 17), [], []⟩
def l_19_0 : Ss := (.cons (.asg (.nm 7) (.idx (.e (.var 4)) (.var 6)))
      (.cons (.ife (.cmp .ne (.e (.var 7)) (.e (.int 0)))
      (.cons (.asg (.nm 4) (.bif .tuple (.cons (.e (.lc (.tp [8, 9]) [("a", 8), ("b", 9)] (.zip (.var 4) (.var 5)) .none (.bin .mod (.e (.bin .sub (.e (.var 8)) (.e (.bin .mul (.e (.var 7)) (.e (.var 9)))))) (.e (.var 0))))) .nil)))
      .nil)
      .nil)
      .nil))
/-- _less_leads -/
def b_19 : Ss := (.cons (.asg (.nm 4) (.bif .tuple (.cons (.e (.var 3)) .nil)))
      (.cons (.for_ (.tp [5, 6]) (.zip (.var 1) (.var 2)) l_19_0 [5, 6, 7])
      (.cons (.ret (.var 4))
      .nil)))
def f_19 : Fn := ⟨("_less_leads", none), "_less_leads", ["prime", "rows", "leads", "row"], ["prime", "rows", "leads", "row", "left", "led", "at", "many", "a", "b"], [], b_19⟩
def d_19 : He.DefD := ⟨("_less_leads", none), "_less_leads", "_less_leads", defArgs (top 16), defBody (top 16), defScope (top 16), [], []⟩
def l_20_0 : Ss := (.cons (.ife (.cmp .ne (.e (.var 2)) (.e (.int 0)))
      (.cons (.ret (.var 1))
      .nil)
      .nil)
      .nil)
/-- _first_place -/
def b_20 : Ss := (.cons (.for_ (.tp [1, 2]) (.enum (.var 0)) l_20_0 [1, 2])
      (.cons (.ret (.neg (.int 1)))
      .nil))
def f_20 : Fn := ⟨("_first_place", none), "_first_place", ["row"], ["row", "at", "number"], [], b_20⟩
def d_20 : He.DefD := ⟨("_first_place", none), "_first_place", "_first_place", defArgs (top 15), defBody (top 15), defScope (top 15), [], []⟩
def l_21_0 : Ss := (.cons (.ife (.e (.e (.bin .band (.e (.var 2)) (.e (.int 1)))))
      (.cons (.asg (.nm 3) (.bin .mod (.e (.bin .mul (.e (.var 3)) (.e (.var 4)))) (.e (.var 0))))
      .nil)
      .nil)
      (.cons (.asg (.nm 4) (.bin .mod (.e (.bin .mul (.e (.var 4)) (.e (.var 4)))) (.e (.var 0))))
      (.cons (.asg (.nm 2) (.bin .fdiv (.e (.var 2)) (.e (.int 2))))
      .nil)))
/-- _powered -/
def b_21 : Ss := (.cons (.asg (.nm 3) (.int 1))
      (.cons (.asg (.nm 4) (.var 1))
      (.cons (.whl 8 (.cmp .gt (.e (.var 2)) (.e (.int 0))) l_21_0 [])
      (.cons (.ret (.bin .mod (.e (.var 3)) (.e (.var 0))))
      .nil))))
def f_21 : Fn := ⟨("_powered", none), "_powered", ["prime", "number", "exponent"], ["prime", "number", "exponent", "told", "square"], [], b_21⟩
def d_21 : He.DefD := ⟨("_powered", none), "_powered", "_powered", defArgs (top 11), defBody (top 11), defScope (top 11), [], []⟩
def l_22_0 : Ss := (.cons (.ife (.not (.e (.e (.call 14 (.cons (.var 0) (.cons (.var 1) (.cons (.var 4) .nil)))))))
      (.cons (.rse "BadPoint" (.var 3))
      .nil)
      .nil)
      .nil)
/-- _need_number_rows -/
def b_22 : Ss := (.cons (.ife (.not (.e (.e (.isis (.var 2) [(.bt "list"), (.bt "tuple")]))))
      (.cons (.rse "BadPoint" (.neg (.int 1)))
      .nil)
      .nil)
      (.cons (.for_ (.tp [3, 4]) (.enum (.var 2)) l_22_0 [3])
      (.cons (.ret (.lc (.nm 4) [("row", 4)] (.seq (.var 2)) .none (.bif .tuple (.cons (.e (.var 4)) .nil))))
      .nil)))
def f_22 : Fn := ⟨("_need_number_rows", none), "_need_number_rows", ["prime", "width", "rows"], ["prime", "width", "rows", "at", "row"], [], b_22⟩
def d_22 : He.DefD := ⟨("_need_number_rows", none), "_need_number_rows", "_need_number_rows", defArgs (top 14), defBody (top 14), defScope (top 14), [], []⟩
def l_23_0 : Ss := (.cons (.ife (.inm true (.var 3) (.var 6) [("Space", 24)])
      (.cons (.om 5 .append (.cons (.tup (.cons (.var 6) (.cons (.var 7) .nil))) .nil))
      (.cons (.om 5 .append (.cons (.tup (.cons (.meth (.var 6) "with_row" [("Space", 25)] (.cons (.var 3) .nil)) (.cons (.neg (.var 7)) .nil))) .nil))
      .nil))
      .nil)
      .nil)
def l_23_1 : Ss := (.cons (.asgO 5 (.lst .nil))
      (.cons (.for_ (.tp [6, 7]) (.seq (.var 2)) l_23_0 [])
      (.cons (.asg (.nm 2) (.bif .list (.cons (.sl 5) .nil)))
      .nil)))
def l_23_2 : Ss := (.cons (.asg (.nm 8) (.bin .sub (.e (.attr (.e (.var 0)) "width")) (.e (.leno (.var 6) [("Space", 26)]))))
      (.cons (.seti 4 (.var 8) (.bin .add (.e (.dget (.sl 4) (.var 8) (.int 0))) (.e (.var 7))))
      .nil))
/-- _mend_terms -/
def b_23 : Ss := (.cons (.asg (.nm 2) (.lst (.cons (.tup (.cons (.var 0) (.cons (.int 1) .nil))) .nil)))
      (.cons (.for_ (.nm 3) (.seq (.var 1)) l_23_1 [3, 5])
      (.cons (.asgO 4 (.dnew false))
      (.cons (.for_ (.tp [6, 7]) (.seq (.var 2)) l_23_2 [])
      (.cons (.ret (.bif .tuple (.cons (.e (.lc (.nm 8) [("exponent", 8)] (.seq (.bif .sortedR (.cons (.sl 4) .nil))) (.some (.cmp .ne (.e (.idx (.sl 4) (.var 8))) (.e (.int 0)))) (.tup (.cons (.var 8) (.cons (.idx (.sl 4) (.var 8)) .nil))))) .nil)))
      .nil)))))
def f_23 : Fn := ⟨("_mend_terms", none), "_mend_terms", ["space", "rows"], ["space", "rows", "states", "row", "found", "further", "reached", "sign", "exponent"], [], b_23⟩
def d_23 : He.DefD := ⟨("_mend_terms", none), "_mend_terms", "_mend_terms", defArgs (top 25), defBody (top 25), defScope (top 25), [], []⟩
/-- Space.__contains__ -/
def b_24 : Ss := (.cons (.ife (.not (.e (.e (.call 14 (.cons (.attr (.e (.var 0)) "prime") (.cons (.attr (.e (.var 0)) "width") (.cons (.var 1) .nil)))))))
      (.cons (.ret (.bl false))
      .nil)
      .nil)
      (.cons (.ret (.cmp .lt (.e (.call 20 (.cons (.call 19 (.cons (.attr (.e (.var 0)) "prime") (.cons (.attr (.e (.var 0)) "rows") (.cons (.attr (.e (.var 0)) "_leads") (.cons (.var 1) .nil))))) .nil))) (.e (.int 0))))
      .nil))
def f_24 : Fn := ⟨("Space", some "__contains__"), "Space.__contains__", ["self", "row"], ["self", "row"], [], b_24⟩
def d_24 : He.DefD := ⟨("Space", some "__contains__"), "__contains__", "Space.__contains__", defArgs (mth 19 6), defBody (mth 19 6), defScope (mth 19 6), [], []⟩
/-- Space.with_row -/
def b_25 : Ss := (.cons (.ife (.not (.e (.e (.call 14 (.cons (.attr (.e (.var 0)) "prime") (.cons (.attr (.e (.var 0)) "width") (.cons (.var 1) .nil)))))))
      (.cons (.rse "BadPoint" (.int 0))
      .nil)
      .nil)
      (.cons (.asg (.nm 2) (.call 18 (.cons (.attr (.e (.var 0)) "prime") (.cons (.attr (.e (.var 0)) "rows") (.cons (.attr (.e (.var 0)) "_leads") (.cons (.var 1) .nil))))))
      (.cons (.asgO 3 (.new "Space" 16 (.cons (.attr (.e (.var 0)) "prime") (.cons (.attr (.e (.var 0)) "width") .nil))))
      (.cons (.setf 3 "rows" (.idx (.e (.var 2)) (.int 0)))
      (.cons (.setf 3 "_leads" (.idx (.e (.var 2)) (.int 1)))
      (.cons (.retS 3)
      .nil))))))
def f_25 : Fn := ⟨("Space", some "with_row"), "Space.with_row", ["self", "row"], ["self", "row", "told", "made"], [], b_25⟩
def d_25 : He.DefD := ⟨("Space", some "with_row"), "with_row", "Space.with_row", defArgs (mth 19 3), defBody (mth 19 3), defScope (mth 19 3), [], []⟩
/-- Space.__len__ -/
def b_26 : Ss := (.cons (.ret (.bif .len (.cons (.e (.attr (.e (.var 0)) "rows")) .nil)))
      .nil)
def f_26 : Fn := ⟨("Space", some "__len__"), "Space.__len__", ["self"], ["self"], [], b_26⟩
def d_26 : He.DefD := ⟨("Space", some "__len__"), "__len__", "Space.__len__", defArgs (mth 19 5), defBody (mth 19 5), defScope (mth 19 5), [], []⟩
def l_27_0 : Ss := (.cons (.asg (.nm 5) (.call 7 (.cons (.var 0) (.cons (.idx (.e (.var 4)) (.var 1)) (.cons (.slc (.e (.var 4)) .none (.some (.var 1))) .nil)))))
      (.cons (.asg (.nm 6) (.lc (.nm 7) [("point", 7)] (.seq (.var 2)) .none (.call 8 (.cons (.var 0) (.cons (.var 5) (.cons (.var 7) .nil))))))
      (.cons (.ife (.cmp .eq (.e (.bif .sum (.cons (.e (.var 6)) .nil))) (.e (.int 0)))
      (.cons (.om 3 .append (.cons (.var 5) .nil))
      .nil)
      .nil)
      .nil)))
/-- _law_sums_on -/
def b_27 : Ss := (.cons (.asgO 3 (.lst .nil))
      (.cons (.for_ (.nm 4) (.seq (.call 4 (.cons (.var 0) (.cons (.bin .add (.e (.var 1)) (.e (.int 1))) .nil)))) l_27_0 [4, 5, 6])
      (.cons (.retS 3)
      .nil)))
def f_27 : Fn := ⟨("_law_sums_on", none), "_law_sums_on", ["prime", "size", "points"], ["prime", "size", "points", "found", "row", "one", "worths", "point"], [], b_27⟩
def d_27 : He.DefD := ⟨("_law_sums_on", none), "_law_sums_on", "_law_sums_on", defArgs (top 39), defBody (top 39), defScope (top 39), [], []⟩
/-- _law_plain -/
def b_28 : Ss := (.cons (.ret (.and (.cons (.isi (.var 0) (.bt "int")) (.cons (.not (.isi (.var 0) (.bt "bool"))) .nil))))
      .nil)
def f_28 : Fn := ⟨("_law_plain", none), "_law_plain", ["value"], ["value"], [], b_28⟩
def d_28 : He.DefD := ⟨("_law_plain", none), "_law_plain", "_law_plain", defArgs (top 32), defBody (top 32), defScope (top 32), [], []⟩
/-- mends_number -/
def b_29 : Ss := (.cons (.ex (.call 15 (.cons (.var 0) (.cons (.call 11 (.cons (.var 0) (.cons (.var 1) .nil))) (.cons (.var 2) .nil)))))
      (.cons (.ife (.or (.cons (.not (.e (.e (.call 13 (.cons (.var 3) .nil))))) (.cons (.not (.chn .le .le (.int 0) (.var 3) (.int 6))) .nil)))
      (.cons (.rse "BadNumber" (.var 3))
      .nil)
      .nil)
      (.cons (.ret (.call 30 (.cons (.var 0) (.cons (.call 10 (.cons (.var 0) (.cons (.var 1) (.cons (.var 2) .nil)))) (.cons (.var 3) .nil)))))
      .nil)))
def f_29 : Fn := ⟨("mends_number", none), "mends_number", ["prime", "right", "bad", "k"], ["prime", "right", "bad", "k"], [], b_29⟩
def d_29 : He.DefD := ⟨("mends_number", none), "mends_number", "mends_number", defArgs (top 28), defBody (top 28), defScope (top 28), [], []⟩
def l_30_0 : Ss := (.cons (.asg (.nm 3) (.bin .add (.e (.var 3)) (.e (.bin .mul (.e (.var 5)) (.e (.call 31 (.cons (.var 0) (.cons (.bin .mul (.e (.var 2)) (.e (.var 4))) .nil))))))))
      .nil)
/-- _mends_at -/
def b_30 : Ss := (.cons (.asg (.nm 3) (.int 0))
      (.cons (.for_ (.tp [4, 5]) (.seq (.var 1)) l_30_0 [4, 5])
      (.cons (.ret (.var 3))
      .nil)))
def f_30 : Fn := ⟨("_mends_at", none), "_mends_at", ["prime", "pairs", "count"], ["prime", "pairs", "count", "total", "exponent", "number"], [], b_30⟩
def d_30 : He.DefD := ⟨("_mends_at", none), "_mends_at", "_mends_at", defArgs (top 26), defBody (top 26), defScope (top 26), [], []⟩
def l_31_0 : Ss := (.cons (.asg (.nm 2) (.bin .mul (.e (.var 2)) (.e (.var 0))))
      .nil)
/-- _whole_power -/
def b_31 : Ss := (.cons (.asg (.nm 2) (.int 1))
      (.cons (.for_ (.nm 3) (.rng1 (.var 1)) l_31_0 [3])
      (.cons (.ret (.var 2))
      .nil)))
def f_31 : Fn := ⟨("_whole_power", none), "_whole_power", ["base", "exponent"], ["base", "exponent", "told", "_"], [], b_31⟩
def d_31 : He.DefD := ⟨("_whole_power", none), "_whole_power", "_whole_power", defArgs (top 10), defBody (top 10), defScope (top 10), [], []⟩
def l_32_0 : Ss := (.cons (.ife (.cmp .eq (.e (.call 8 (.cons (.var 0) (.cons (.var 5) (.cons (.var 11) .nil))))) (.e (.int 0)))
      (.cons (.om 10 .append (.cons (.int 1) .nil))
      .nil)
      (.cons (.om 10 .append (.cons (.int 0) .nil))
      .nil))
      .nil)
def l_32_1 : Ss := (.cons (.asgO 10 (.lst .nil))
      (.cons (.for_ (.nm 11) (.seq (.var 3)) l_32_0 [])
      (.cons (.seti 4 (.bif .tuple (.cons (.sl 10) .nil)) (.bin .add (.e (.dget (.sl 4) (.bif .tuple (.cons (.sl 10) .nil)) (.int 0))) (.e (.int 1))))
      .nil)))
def l_32_2 : Ss := (.cons (.asg (.nm 14) (.bif .tuple (.cons (.e (.lc (.tp [5, 15]) [("one", 5), ("two", 15)] (.zip (.var 10) (.var 13)) .none (.bin .mul (.e (.var 5)) (.e (.var 15))))) .nil)))
      (.cons (.seti 12 (.var 14) (.bin .add (.e (.dget (.sl 12) (.var 14) (.int 0))) (.e (.bin .mul (.e (.idx (.e (.var 6)) (.var 10))) (.e (.idx (.sl 4) (.var 13)))))))
      .nil))
def l_32_3 : Ss := (.cons (.for_ (.nm 13) (.seq (.bif .list (.cons (.sl 4) .nil))) l_32_2 [13, 14])
      .nil)
def l_32_4 : Ss := (.cons (.om 8 .append (.cons (.dget (.e (.var 6)) (.var 7) (.int 0)) .nil))
      (.cons (.asgO 12 (.dnew true))
      (.cons (.for_ (.nm 10) (.seq (.bif .list (.cons (.e (.var 6)) .nil))) l_32_3 [13, 14])
      (.cons (.gfz 12)
      (.cons (.asg (.nm 6) (.var 12))
      .nil)))))
/-- _law_mend_counts -/
def b_32 : Ss := (.cons (.asgO 4 (.dnew true))
      (.cons (.for_ (.nm 5) (.seq (.call 27 (.cons (.var 0) (.cons (.var 1) (.cons (.var 2) .nil))))) l_32_1 [])
      (.cons (.asg (.nm 6) (.dset (.bif .tuple (.cons (.e (.lc (.nm 11) [("point", 11)] (.seq (.var 3)) .none (.int 1))) .nil)) (.int 1)))
      (.cons (.asg (.nm 7) (.bif .tuple (.cons (.e (.lc (.nm 11) [("point", 11)] (.seq (.var 3)) .none (.int 0))) .nil)))
      (.cons (.asgO 8 (.lst .nil))
      (.cons (.for_ (.nm 9) (.rng1 (.int 7)) l_32_4 [9, 12, 13, 14])
      (.cons (.retS 8)
      .nil)))))))
def f_32 : Fn := ⟨("_law_mend_counts", none), "_law_mend_counts", ["prime", "size", "right", "bad"], ["prime", "size", "right", "bad", "marks", "one", "now", "wanted", "counts", "turn", "mark", "point", "fresh", "other", "both", "two"], [], b_32⟩
def d_32 : He.DefD := ⟨("_law_mend_counts", none), "_law_mend_counts", "_law_mend_counts", defArgs (top 40), defBody (top 40), defScope (top 40), [], []⟩
def l_33_0 : Ss := (.cons (.ife (.or (.cons (.not (.e (.e (.isi (.var 3) (.bt "tuple"))))) (.cons (.cmp .ne (.e (.bif .len (.cons (.e (.var 3)) .nil))) (.e (.int 2))) (.cons (.not (.e (.e (.call 28 (.cons (.idx (.e (.var 3)) (.int 0)) .nil))))) (.cons (.not (.e (.e (.call 28 (.cons (.idx (.e (.var 3)) (.int 1)) .nil))))) .nil)))))
      (.cons (.ret (.bl false))
      .nil)
      .nil)
      (.cons (.ife (.or (.cons (.not (.chn .le .lt (.int 0) (.idx (.e (.var 3)) (.int 0)) (.var 2))) (.cons (.cmp .eq (.e (.idx (.e (.var 3)) (.int 1))) (.e (.int 0))) .nil)))
      (.cons (.ret (.bl false))
      .nil)
      .nil)
      (.cons (.asg (.nm 2) (.idx (.e (.var 3)) (.int 0)))
      .nil)))
/-- _law_form_good -/
def b_33 : Ss := (.cons (.ife (.not (.e (.e (.isi (.var 0) (.bt "tuple")))))
      (.cons (.ret (.bl false))
      .nil)
      .nil)
      (.cons (.asg (.nm 2) (.bin .add (.e (.var 1)) (.e (.int 1))))
      (.cons (.for_ (.nm 3) (.seq (.var 0)) l_33_0 [3])
      (.cons (.ret (.bl true))
      .nil))))
def f_33 : Fn := ⟨("_law_form_good", none), "_law_form_good", ["told", "most"], ["told", "most", "last", "pair"], [], b_33⟩
def d_33 : He.DefD := ⟨("_law_form_good", none), "_law_form_good", "_law_form_good", defArgs (top 42), defBody (top 42), defScope (top 42), [], []⟩
def l_34_0 : Ss := (.cons (.aug 9 .add (.bin .mul (.e (.var 12)) (.e (.call 6 (.cons (.call 6 (.cons (.var 0) (.cons (.var 8) .nil))) (.cons (.var 11) .nil))))))
      .nil)
def l_34_1 : Ss := (.cons (.asg (.nm 9) (.int 0))
      (.cons (.for_ (.tp [11, 12]) (.seq (.var 7)) l_34_0 [11, 12])
      (.cons (.ife (.cmp .ne (.e (.var 9)) (.e (.idx (.e (.var 5)) (.var 8))))
      (.cons (.ret (.bl false))
      .nil)
      .nil)
      .nil)))
def l_34_2 : Ss := (.cons (.asg (.nm 10) (.call 29 (.cons (.var 0) (.cons (.bif .tuple (.cons (.e (.var 2)) .nil)) (.cons (.bif .tuple (.cons (.e (.var 3)) .nil)) (.cons (.var 8) .nil))))))
      (.cons (.ife (.or (.cons (.not (.e (.e (.call 28 (.cons (.var 10) .nil))))) (.cons (.cmp .ne (.e (.var 10)) (.e (.idx (.e (.var 5)) (.var 8)))) .nil)))
      (.cons (.ret (.bl false))
      .nil)
      .nil)
      (.cons (.ife (.and (.cons (.cmp .gt (.e (.bif .len (.cons (.e (.var 3)) .nil))) (.e (.int 0))) (.cons (.cmp .gt (.e (.var 8)) (.e (.int 0))) (.cons (.cmp .ne (.e (.bin .mod (.e (.bif .int (.cons (.e (.var 10)) .nil))) (.e (.bin .sub (.e (.call 6 (.cons (.var 0) (.cons (.var 8) .nil)))) (.e (.int 1)))))) (.e (.int 0))) .nil))))
      (.cons (.ret (.bl false))
      .nil)
      .nil)
      .nil)))
/-- _law_counted -/
def b_34 : Ss := (.cons (.asg (.nm 5) (.call 32 (.cons (.var 0) (.cons (.var 1) (.cons (.var 2) (.cons (.var 3) .nil))))))
      (.cons (.asg (.nm 6) (.lst (.cons (.bif .list (.cons (.e (.var 2)) .nil)) (.cons (.bif .list (.cons (.e (.var 3)) .nil)) .nil))))
      (.cons (.asg (.nm 7) (.call 10 (.cons (.var 0) (.cons (.idx (.e (.var 6)) (.int 0)) (.cons (.idx (.e (.var 6)) (.int 1)) .nil)))))
      (.cons (.ife (.or (.cons (.cmp .ne (.e (.var 6)) (.e (.lst (.cons (.bif .list (.cons (.e (.var 2)) .nil)) (.cons (.bif .list (.cons (.e (.var 3)) .nil)) .nil))))) (.cons (.not (.e (.e (.call 33 (.cons (.var 7) (.cons (.bin .add (.e (.var 1)) (.e (.int 1))) .nil)))))) .nil)))
      (.cons (.ret (.bl false))
      .nil)
      .nil)
      (.cons (.for_ (.nm 8) (.rng1 (.int 7)) l_34_1 [9, 11, 12])
      (.cons (.for_ (.nm 8) (.seq (.var 4)) l_34_2 [10])
      (.cons (.ret (.bl true))
      .nil)))))))
def f_34 : Fn := ⟨("_law_counted", none), "_law_counted", ["prime", "size", "right", "bad", "asked"], ["prime", "size", "right", "bad", "asked", "due", "handed", "told", "k", "total", "again", "exponent", "number"], [], b_34⟩
def d_34 : He.DefD := ⟨("_law_counted", none), "_law_counted", "_law_counted", defArgs (top 43), defBody (top 43), defScope (top 43), [], []⟩
/-- _law_refusal -/
def b_35 : Ss := (.cons (.try_ (.cons (.ex (.call 29 (.cons (.var 0) (.cons (.var 1) (.cons (.var 2) (.cons (.var 3) .nil))))))
      .nil) [⟨"BadNumber", (some 4), (.retL [.str "number", .fld "thing"])⟩, ⟨"BadPoint", (some 4), (.retL [.str "place", .fld "place"])⟩, ⟨"TooMany", (some 4), (.retL [.str "limit", .fld "limit"])⟩, ⟨"FillingError", none, (.retL [.str "other"])⟩])
      (.cons (.ret (.lst (.cons (.str "none") .nil)))
      .nil))
def f_35 : Fn := ⟨("_law_refusal", none), "_law_refusal", ["prime", "right", "bad", "k"], ["prime", "right", "bad", "k", "error"], [], b_35⟩
def d_35 : He.DefD := ⟨("_law_refusal", none), "_law_refusal", "_law_refusal", defArgs (top 44), defBody (top 44), defScope (top 44), [], []⟩
/-- _law_told_refusal -/
def b_36 : Ss := (.cons (.try_ (.cons (.ex (.call 10 (.cons (.var 0) (.cons (.var 1) (.cons (.var 2) .nil)))))
      .nil) [⟨"BadPoint", (some 3), (.retL [.str "place", .fld "place"])⟩, ⟨"TooMany", (some 3), (.retL [.str "limit", .fld "limit"])⟩, ⟨"FillingError", none, (.retL [.str "other"])⟩])
      (.cons (.ret (.lst (.cons (.str "none") .nil)))
      .nil))
def f_36 : Fn := ⟨("_law_told_refusal", none), "_law_told_refusal", ["prime", "right", "bad"], ["prime", "right", "bad", "error"], [], b_36⟩
def d_36 : He.DefD := ⟨("_law_told_refusal", none), "_law_told_refusal", "_law_told_refusal", defArgs (top 45), defBody (top 45), defScope (top 45), [], []⟩
def l_37_0 : Ss := (.cons (.ife (.cmp .ne (.e (.call 36 (.cons (.var 1) (.cons (.var 9) (.cons .non .nil))))) (.e (.lst (.cons (.str "place") (.cons (.neg (.int 1)) .nil)))))
      (.cons (.ret (.bl false))
      .nil)
      .nil)
      .nil)
/-- _law_wrong_points -/
def b_37 : Ss := (.cons (.asg (.nm 5) (.lst (.cons (.slc (.e (.idx (.e (.var 3)) (.int 0))) (.some (.int 1)) .none) (.cons (.bin .add (.e (.idx (.e (.var 3)) (.int 0))) (.e (.tup (.cons (.int 0) .nil)))) (.cons (.bin .add (.e (.slc (.e (.idx (.e (.var 3)) (.int 0))) (.some (.int 1)) .none)) (.e (.tup (.cons (.var 1) .nil)))) (.cons (.bin .add (.e (.slc (.e (.idx (.e (.var 3)) (.int 0))) (.some (.int 1)) .none)) (.e (.tup (.cons (.bl true) .nil)))) (.cons .non .nil)))))))
      (.cons (.asg (.nm 6) (.idx (.e (.var 5)) (.call 3 (.cons (.var 0) (.cons (.int 5) .nil)))))
      (.cons (.asg (.nm 7) (.bin .add (.e (.call 3 (.cons (.var 0) (.cons (.bif .len (.cons (.e (.var 3)) .nil)) .nil)))) (.e (.int 1))))
      (.cons (.asg (.nm 8) (.bin .add (.e (.bin .add (.e (.slc (.e (.var 3)) .none (.some (.var 7)))) (.e (.lst (.cons (.var 6) .nil))))) (.e (.slc (.e (.var 3)) (.some (.var 7)) .none))))
      (.cons (.for_ (.nm 9) (.seq (.lst (.cons (.lst .nil) (.cons .non (.cons (.int 5) .nil))))) l_37_0 [9])
      (.cons (.ife (.cmp .ne (.e (.call 36 (.cons (.var 1) (.cons (.var 8) (.cons .non .nil))))) (.e (.lst (.cons (.str "place") (.cons (.var 7) .nil)))))
      (.cons (.ret (.bl false))
      .nil)
      .nil)
      (.cons (.ife (.cmp .ne (.e (.call 36 (.cons (.var 1) (.cons (.var 3) (.cons .non .nil))))) (.e (.lst (.cons (.str "place") (.cons (.neg (.int 1)) .nil)))))
      (.cons (.ret (.bl false))
      .nil)
      .nil)
      (.cons (.asg (.nm 10) (.call 3 (.cons (.var 0) (.cons (.bin .add (.e (.bif .len (.cons (.e (.var 4)) .nil))) (.e (.int 1))) .nil))))
      (.cons (.ife (.cmp .ne (.e (.call 36 (.cons (.var 1) (.cons (.bif .tuple (.cons (.e (.var 3)) .nil)) (.cons (.bin .add (.e (.bin .add (.e (.slc (.e (.var 4)) .none (.some (.var 10)))) (.e (.lst (.cons (.var 6) .nil))))) (.e (.slc (.e (.var 4)) (.some (.var 10)) .none))) .nil))))) (.e (.lst (.cons (.str "place") (.cons (.var 10) .nil)))))
      (.cons (.ret (.bl false))
      .nil)
      .nil)
      (.cons (.ret (.cmp .eq (.e (.call 10 (.cons (.var 1) (.cons (.bin .add (.e (.var 3)) (.e (.slc (.e (.var 3)) .none (.some (.int 1))))) (.cons (.var 4) .nil))))) (.e (.call 10 (.cons (.var 1) (.cons (.var 3) (.cons (.var 4) .nil)))))))
      .nil))))))))))
def f_37 : Fn := ⟨("_law_wrong_points", none), "_law_wrong_points", ["draws", "prime", "size", "right", "bad"], ["draws", "prime", "size", "right", "bad", "strange", "one", "place", "longer", "wrong", "at"], [], b_37⟩
def d_37 : He.DefD := ⟨("_law_wrong_points", none), "_law_wrong_points", "_law_wrong_points", defArgs (top 46), defBody (top 46), defScope (top 46), [], []⟩
def G : Prog where
  fns := [f_0, f_1, f_2, f_3, f_4, f_5, f_6, f_7, f_8, f_9, f_10, f_11, f_12, f_13, f_14, f_15, f_16, f_17, f_18, f_19, f_20, f_21, f_22, f_23, f_24, f_25, f_26, f_27, f_28, f_29, f_30, f_31, f_32, f_33, f_34, f_35, f_36, f_37]
  gints := [("_MOST_BAD", 10)]
  flds := [("Space", ["prime", "width", "rows", "_leads"])]
  clss := []
  subs := []
  news := [("Space", 16)]
  exs := [("BadPrime", "number"), ("BadNumber", "thing"), ("BadPoint", "place"), ("TooMany", "limit")]
  exm := [(("BadPrime", "BadNumber"), false), (("BadPrime", "BadPoint"), false), (("BadPrime", "TooMany"), false), (("BadPrime", "FillingError"), true), (("BadNumber", "BadNumber"), true), (("BadNumber", "BadPoint"), false), (("BadNumber", "TooMany"), false), (("BadNumber", "FillingError"), true), (("BadPoint", "BadNumber"), false), (("BadPoint", "BadPoint"), true), (("BadPoint", "TooMany"), false), (("BadPoint", "FillingError"), true), (("TooMany", "BadNumber"), false), (("TooMany", "BadPoint"), false), (("TooMany", "TooMany"), true), (("TooMany", "FillingError"), true)]
  mets := [(("Space", "__contains__"), 24), (("Space", "with_row"), 25), (("Space", "__len__"), 26)]
def x_BadPrime : XD := ⟨"BadPrime", "number", "BadPrime.__init__", "number", mth 3 0⟩
def x_BadNumber : XD := ⟨"BadNumber", "thing", "BadNumber.__init__", "thing", mth 4 0⟩
def x_BadPoint : XD := ⟨"BadPoint", "place", "BadPoint.__init__", "place", mth 5 0⟩
def x_TooMany : XD := ⟨"TooMany", "limit", "TooMany.__init__", "limit", mth 6 0⟩
def xds : List XD := [x_BadPrime, x_BadNumber, x_BadPoint, x_TooMany]
def dfs : List He.DefD := [d_0, d_1, d_2, d_3, d_4, d_5, d_6, d_7, d_8, d_9, d_10, d_11, d_12, d_13, d_14, d_15, d_16, d_17, d_18, d_19, d_20, d_21, d_22, d_23, d_24, d_25, d_26, d_27, d_28, d_29, d_30, d_31, d_32, d_33, d_34, d_35, d_36, d_37]
theorem m_0 : defB G f_0 d_0 = true := by decide +kernel
theorem m_1 : defB G f_1 d_1 = true := by decide +kernel
theorem m_2 : defB G f_2 d_2 = true := by decide +kernel
theorem m_3 : defB G f_3 d_3 = true := by decide +kernel
theorem m_4 : defB G f_4 d_4 = true := by decide +kernel
theorem m_5 : defB G f_5 d_5 = true := by decide +kernel
theorem m_6 : defB G f_6 d_6 = true := by decide +kernel
theorem m_7 : defB G f_7 d_7 = true := by decide +kernel
theorem m_8 : defB G f_8 d_8 = true := by decide +kernel
theorem m_9 : defB G f_9 d_9 = true := by decide +kernel
theorem m_10 : defB G f_10 d_10 = true := by decide +kernel
theorem m_11 : defB G f_11 d_11 = true := by decide +kernel
theorem m_12 : defB G f_12 d_12 = true := by decide +kernel
theorem m_13 : defB G f_13 d_13 = true := by decide +kernel
theorem m_14 : defB G f_14 d_14 = true := by decide +kernel
theorem m_15 : defB G f_15 d_15 = true := by decide +kernel
theorem m_16 : defB G f_16 d_16 = true := by decide +kernel
theorem m_17 : defB G f_17 d_17 = true := by decide +kernel
theorem m_18 : defB G f_18 d_18 = true := by decide +kernel
theorem m_19 : defB G f_19 d_19 = true := by decide +kernel
theorem m_20 : defB G f_20 d_20 = true := by decide +kernel
theorem m_21 : defB G f_21 d_21 = true := by decide +kernel
theorem m_22 : defB G f_22 d_22 = true := by decide +kernel
theorem m_23 : defB G f_23 d_23 = true := by decide +kernel
theorem m_24 : defB G f_24 d_24 = true := by decide +kernel
theorem m_25 : defB G f_25 d_25 = true := by decide +kernel
theorem m_26 : defB G f_26 d_26 = true := by decide +kernel
theorem m_27 : defB G f_27 d_27 = true := by decide +kernel
theorem m_28 : defB G f_28 d_28 = true := by decide +kernel
theorem m_29 : defB G f_29 d_29 = true := by decide +kernel
theorem m_30 : defB G f_30 d_30 = true := by decide +kernel
theorem m_31 : defB G f_31 d_31 = true := by decide +kernel
theorem m_32 : defB G f_32 d_32 = true := by decide +kernel
theorem m_33 : defB G f_33 d_33 = true := by decide +kernel
theorem m_34 : defB G f_34 d_34 = true := by decide +kernel
theorem m_35 : defB G f_35 d_35 = true := by decide +kernel
theorem m_36 : defB G f_36 d_36 = true := by decide +kernel
theorem m_37 : defB G f_37 d_37 = true := by decide +kernel
-- law index 0, law statement 47
def looseNames : List PySem.Str := []
section
def ex (K : PySem.W.Frag) : Bool := tup0B (He.dflAt ("Space", some "__init__") 0) K
variable {K : PySem.W.Frag} {mg : Str → Option Value} (c : SaysP ex G dfs K)
include c
theorem fd_0 : FnD G K mg f_0 := fnd_plain (c.def_ 0 (d := d_0) rfl) rfl rfl m_0 fun _ _ _ _ _ _ us hl => match us, hl with | [_], _ => rfl
theorem fd_1 : FnD G K mg f_1 := fnd_plain (c.def_ 1 (d := d_1) rfl) rfl rfl m_1 fun _ _ _ _ _ _ us hl => match us, hl with | [_], _ => rfl
theorem fd_2 : FnD G K mg f_2 := fnd_plain (c.def_ 2 (d := d_2) rfl) rfl rfl m_2 fun _ _ _ _ _ _ us hl => match us, hl with | [_, _], _ => rfl
theorem fd_3 : FnD G K mg f_3 := fnd_plain (c.def_ 3 (d := d_3) rfl) rfl rfl m_3 fun _ _ _ _ _ _ us hl => match us, hl with | [_, _], _ => rfl
theorem fd_4 : FnD G K mg f_4 := fnd_plain (c.def_ 4 (d := d_4) rfl) rfl rfl m_4 fun _ _ _ _ _ _ us hl => match us, hl with | [_, _], _ => rfl
theorem fd_5 : FnD G K mg f_5 := fnd_plain (c.def_ 5 (d := d_5) rfl) rfl rfl m_5 fun _ _ _ _ _ _ us hl => match us, hl with | [_, _], _ => rfl
theorem fd_6 : FnD G K mg f_6 := fnd_plain (c.def_ 6 (d := d_6) rfl) rfl rfl m_6 fun _ _ _ _ _ _ us hl => match us, hl with | [_, _], _ => rfl
theorem fd_7 : FnD G K mg f_7 := fnd_plain (c.def_ 7 (d := d_7) rfl) rfl rfl m_7 fun _ _ _ _ _ _ us hl => match us, hl with | [_, _, _], _ => rfl
theorem fd_8 : FnD G K mg f_8 := fnd_plain (c.def_ 8 (d := d_8) rfl) rfl rfl m_8 fun _ _ _ _ _ _ us hl => match us, hl with | [_, _, _], _ => rfl
theorem fd_9 : FnD G K mg f_9 := fnd_plain (c.def_ 9 (d := d_9) rfl) rfl rfl m_9 fun _ _ _ _ _ _ us hl => match us, hl with | [_, _], _ => rfl
theorem fd_10 : FnD G K mg f_10 := fnd_plain (c.def_ 10 (d := d_10) rfl) rfl rfl m_10 fun _ _ _ _ _ _ us hl => match us, hl with | [_, _, _], _ => rfl
theorem fd_11 : FnD G K mg f_11 := fnd_plain (c.def_ 11 (d := d_11) rfl) rfl rfl m_11 fun _ _ _ _ _ _ us hl => match us, hl with | [_, _], _ => rfl
theorem fd_12 : FnD G K mg f_12 := fnd_plain (c.def_ 12 (d := d_12) rfl) rfl rfl m_12 fun _ _ _ _ _ _ us hl => match us, hl with | [_], _ => rfl
theorem fd_13 : FnD G K mg f_13 := fnd_plain (c.def_ 13 (d := d_13) rfl) rfl rfl m_13 fun _ _ _ _ _ _ us hl => match us, hl with | [_], _ => rfl
theorem fd_14 : FnD G K mg f_14 := fnd_plain (c.def_ 14 (d := d_14) rfl) rfl rfl m_14 fun _ _ _ _ _ _ us hl => match us, hl with | [_, _, _], _ => rfl
theorem fd_15 : FnD G K mg f_15 := fnd_plain (c.def_ 15 (d := d_15) rfl) rfl rfl m_15 fun _ _ _ _ _ _ us hl => match us, hl with | [_, _, _], _ => rfl
theorem fd_16 : FnD G K mg f_16 := fnd_dfl (c.def_ 16 (d := d_16) rfl) rfl (by decide) m_16 (fun W => Reps.one (tup0_ok c.facts.2 W)) fun j j1 j2 T kV doc pm an cdv ct us its l1 l2 => match j, us, its, l1, l2, j1, j2 with | 3, [_, _, _], [_], _, _, _, _ => ⟨_, rfl, rfl⟩ | 4, [_, _, _, _], [_], _, _, _, _ => ⟨_, rfl, rfl⟩
theorem fd_17 : FnD G K mg f_17 := fnd_plain (c.def_ 17 (d := d_17) rfl) rfl rfl m_17 fun _ _ _ _ _ _ us hl => match us, hl with | [_, _], _ => rfl
theorem fd_18 : FnD G K mg f_18 := fnd_plain (c.def_ 18 (d := d_18) rfl) rfl rfl m_18 fun _ _ _ _ _ _ us hl => match us, hl with | [_, _, _, _], _ => rfl
theorem fd_19 : FnD G K mg f_19 := fnd_plain (c.def_ 19 (d := d_19) rfl) rfl rfl m_19 fun _ _ _ _ _ _ us hl => match us, hl with | [_, _, _, _], _ => rfl
theorem fd_20 : FnD G K mg f_20 := fnd_plain (c.def_ 20 (d := d_20) rfl) rfl rfl m_20 fun _ _ _ _ _ _ us hl => match us, hl with | [_], _ => rfl
theorem fd_21 : FnD G K mg f_21 := fnd_plain (c.def_ 21 (d := d_21) rfl) rfl rfl m_21 fun _ _ _ _ _ _ us hl => match us, hl with | [_, _, _], _ => rfl
theorem fd_22 : FnD G K mg f_22 := fnd_plain (c.def_ 22 (d := d_22) rfl) rfl rfl m_22 fun _ _ _ _ _ _ us hl => match us, hl with | [_, _, _], _ => rfl
theorem fd_23 : FnD G K mg f_23 := fnd_plain (c.def_ 23 (d := d_23) rfl) rfl rfl m_23 fun _ _ _ _ _ _ us hl => match us, hl with | [_, _], _ => rfl
theorem fd_24 : FnD G K mg f_24 := fnd_plain (c.def_ 24 (d := d_24) rfl) rfl rfl m_24 fun _ _ _ _ _ _ us hl => match us, hl with | [_, _], _ => rfl
theorem fd_25 : FnD G K mg f_25 := fnd_plain (c.def_ 25 (d := d_25) rfl) rfl rfl m_25 fun _ _ _ _ _ _ us hl => match us, hl with | [_, _], _ => rfl
theorem fd_26 : FnD G K mg f_26 := fnd_plain (c.def_ 26 (d := d_26) rfl) rfl rfl m_26 fun _ _ _ _ _ _ us hl => match us, hl with | [_], _ => rfl
theorem fd_27 : FnD G K mg f_27 := fnd_plain (c.def_ 27 (d := d_27) rfl) rfl rfl m_27 fun _ _ _ _ _ _ us hl => match us, hl with | [_, _, _], _ => rfl
theorem fd_28 : FnD G K mg f_28 := fnd_plain (c.def_ 28 (d := d_28) rfl) rfl rfl m_28 fun _ _ _ _ _ _ us hl => match us, hl with | [_], _ => rfl
theorem fd_29 : FnD G K mg f_29 := fnd_plain (c.def_ 29 (d := d_29) rfl) rfl rfl m_29 fun _ _ _ _ _ _ us hl => match us, hl with | [_, _, _, _], _ => rfl
theorem fd_30 : FnD G K mg f_30 := fnd_plain (c.def_ 30 (d := d_30) rfl) rfl rfl m_30 fun _ _ _ _ _ _ us hl => match us, hl with | [_, _, _], _ => rfl
theorem fd_31 : FnD G K mg f_31 := fnd_plain (c.def_ 31 (d := d_31) rfl) rfl rfl m_31 fun _ _ _ _ _ _ us hl => match us, hl with | [_, _], _ => rfl
theorem fd_32 : FnD G K mg f_32 := fnd_plain (c.def_ 32 (d := d_32) rfl) rfl rfl m_32 fun _ _ _ _ _ _ us hl => match us, hl with | [_, _, _, _], _ => rfl
theorem fd_33 : FnD G K mg f_33 := fnd_plain (c.def_ 33 (d := d_33) rfl) rfl rfl m_33 fun _ _ _ _ _ _ us hl => match us, hl with | [_, _], _ => rfl
theorem fd_34 : FnD G K mg f_34 := fnd_plain (c.def_ 34 (d := d_34) rfl) rfl rfl m_34 fun _ _ _ _ _ _ us hl => match us, hl with | [_, _, _, _, _], _ => rfl
theorem fd_35 : FnD G K mg f_35 := fnd_plain (c.def_ 35 (d := d_35) rfl) rfl rfl m_35 fun _ _ _ _ _ _ us hl => match us, hl with | [_, _, _, _], _ => rfl
theorem fd_36 : FnD G K mg f_36 := fnd_plain (c.def_ 36 (d := d_36) rfl) rfl rfl m_36 fun _ _ _ _ _ _ us hl => match us, hl with | [_, _, _], _ => rfl
theorem fd_37 : FnD G K mg f_37 := fnd_plain (c.def_ 37 (d := d_37) rfl) rfl rfl m_37 fun _ _ _ _ _ _ us hl => match us, hl with | [_, _, _, _, _], _ => rfl
theorem fd_all : ∀ f ∈ G.fns, FnD G K mg f := by
  intro f hf
  have hf : f ∈ [f_0, f_1, f_2, f_3, f_4, f_5, f_6, f_7, f_8, f_9, f_10, f_11, f_12, f_13, f_14, f_15, f_16, f_17, f_18, f_19, f_20, f_21, f_22, f_23, f_24, f_25, f_26, f_27, f_28, f_29, f_30, f_31, f_32, f_33, f_34, f_35, f_36, f_37] := hf
  simp only [List.mem_cons, List.not_mem_nil, or_false] at hf
  rcases hf with rfl | rfl | rfl | rfl | rfl | rfl | rfl | rfl | rfl | rfl | rfl | rfl | rfl | rfl | rfl | rfl | rfl | rfl | rfl | rfl | rfl | rfl | rfl | rfl | rfl | rfl | rfl | rfl | rfl | rfl | rfl | rfl | rfl | rfl | rfl | rfl | rfl | rfl
  · exact fd_0 c
  · exact fd_1 c
  · exact fd_2 c
  · exact fd_3 c
  · exact fd_4 c
  · exact fd_5 c
  · exact fd_6 c
  · exact fd_7 c
  · exact fd_8 c
  · exact fd_9 c
  · exact fd_10 c
  · exact fd_11 c
  · exact fd_12 c
  · exact fd_13 c
  · exact fd_14 c
  · exact fd_15 c
  · exact fd_16 c
  · exact fd_17 c
  · exact fd_18 c
  · exact fd_19 c
  · exact fd_20 c
  · exact fd_21 c
  · exact fd_22 c
  · exact fd_23 c
  · exact fd_24 c
  · exact fd_25 c
  · exact fd_26 c
  · exact fd_27 c
  · exact fd_28 c
  · exact fd_29 c
  · exact fd_30 c
  · exact fd_31 c
  · exact fd_32 c
  · exact fd_33 c
  · exact fd_34 c
  · exact fd_35 c
  · exact fd_36 c
  · exact fd_37 c
end
end K94
end

section
set_option Elab.async false
set_option linter.all false
/-! Linear algebra over a prime field, rows as functions. -/
namespace La
open Classical
section
variable {p : Nat} [NeZero p]
abbrev Vc (p : Nat) := Nat → Fin p
def zv : Vc p := fun _ => 0
def lin (c : Fin p) (r v : Vc p) : Vc p := fun i => c * r i + v i
/-- every number but 0 has an inverse -/
def Fld (p : Nat) [NeZero p] : Prop := ∀ a : Fin p, a ≠ 0 → ∃ b : Fin p, a * b = 1
def spn : List (Vc p) → Vc p → Prop
  | [], v => v = zv
  | r :: rs, v => ∃ c v', spn rs v' ∧ v = lin c r v'
theorem spn_zero : ∀ rs : List (Vc p), spn rs zv
  | [] => rfl
  | r :: rs => ⟨0, zv, spn_zero rs, by funext i; simp only [lin, zv]; grind⟩
theorem spn_lin {a : Fin p} : ∀ {rs : List (Vc p)} {u v : Vc p}, spn rs u → spn rs v → spn rs (lin a u v)
  | [], u, v, hu, hv => by
    rw [hu, hv]
    show lin a zv zv = zv
    funext i; simp only [lin, zv]; grind
  | r :: rs, u, v, ⟨c, u', h1, e1⟩, ⟨d, v', h2, e2⟩ => ⟨a * c + d, lin a u' v', spn_lin h1 h2, by
    subst e1 e2
    funext i; simp only [lin]; grind⟩
theorem spn_smul {a : Fin p} {rs : List (Vc p)} {u : Vc p} (h : spn rs u) : spn rs (fun i => a * u i) := by
  have := spn_lin (a := a) h (spn_zero rs)
  have e : lin a u zv = fun i => a * u i := by funext i; simp only [lin, zv]; grind
  rw [e] at this
  exact this
theorem spn_tail {r : Vc p} {rs : List (Vc p)} {v : Vc p} (h : spn rs v) : spn (r :: rs) v := ⟨0, v, h, by funext i; simp only [lin]; grind⟩
theorem spn_head (r : Vc p) (rs : List (Vc p)) : spn (r :: rs) r := ⟨1, zv, spn_zero rs, by funext i; simp only [lin, zv]; grind⟩
theorem spn_mem : ∀ {rs : List (Vc p)} {r : Vc p}, r ∈ rs → spn rs r
  | q :: rs, r, h => by
    rcases List.mem_cons.mp h with e | e
    · rw [e]; exact spn_head q rs
    · exact spn_tail (spn_mem e)
theorem spn_le {qs : List (Vc p)} : ∀ {rs : List (Vc p)} {v : Vc p}, (∀ r ∈ rs, spn qs r) → spn rs v → spn qs v
  | [], v, _, h => by rw [h]; exact spn_zero qs
  | r :: rs, v, hq, ⟨c, v', h, e⟩ => by
    subst e
    exact spn_lin (hq r (by simp)) (spn_le (fun q hq' => hq q (by simp [hq'])) h)
/-- the same span -/
def Sm (a b : List (Vc p)) : Prop := ∀ v, spn a v ↔ spn b v
theorem Sm.refl (a : List (Vc p)) : Sm a a := fun _ => Iff.rfl
theorem Sm.symm {a b : List (Vc p)} (h : Sm a b) : Sm b a := fun v => (h v).symm
theorem Sm.trans {a b c : List (Vc p)} (h : Sm a b) (k : Sm b c) : Sm a c := fun v => (h v).trans (k v)
theorem sm_of {a b : List (Vc p)} (h : ∀ r ∈ a, spn b r) (k : ∀ r ∈ b, spn a r) : Sm a b := fun _ => ⟨spn_le h, spn_le k⟩
theorem sm_cons {a b : List (Vc p)} {r : Vc p} (h : Sm a b) : Sm (r :: a) (r :: b) := by
  refine sm_of (fun q hq => ?_) (fun q hq => ?_)
  · rcases List.mem_cons.mp hq with e | e
    · rw [e]; exact spn_head _ _
    · exact spn_tail ((h q).mp (spn_mem e))
  · rcases List.mem_cons.mp hq with e | e
    · rw [e]; exact spn_head _ _
    · exact spn_tail ((h q).mpr (spn_mem e))
theorem sm_in {a : List (Vc p)} {r : Vc p} (h : spn a r) : Sm (r :: a) a := by
  refine sm_of (fun q hq => ?_) (fun q hq => spn_tail (spn_mem hq))
  rcases List.mem_cons.mp hq with e | e
  · rw [e]; exact h
  · exact spn_mem e
theorem sm_swap (a b : Vc p) (rs : List (Vc p)) : Sm (a :: b :: rs) (b :: a :: rs) := by
  refine sm_of (fun q hq => spn_mem ?_) (fun q hq => spn_mem ?_) <;> (simp at hq ⊢; grind)
theorem sm_perm {a b : List (Vc p)} (h : a.Perm b) : Sm a b := sm_of (fun r hr => spn_mem (h.mem_iff.mp hr)) fun r hr => spn_mem (h.mem_iff.mpr hr)

/-! ### leads -/
/-- v's first place that is not 0 is j -/
def Fst (v : Vc p) (j : Nat) : Prop := v j ≠ 0 ∧ ∀ i, i < j → v i = 0
def ld (S : Vc p → Prop) (j : Nat) : Prop := ∃ v, S v ∧ Fst v j
theorem Fst.inj {v : Vc p} {i j : Nat} (h : Fst v i) (k : Fst v j) : i = j := by
  rcases Nat.lt_trichotomy i j with e | e | e
  · exact absurd (k.2 i e) h.1
  · exact e
  · exact absurd (h.2 j e) k.1
noncomputable def dim (w : Nat) (S : Vc p → Prop) : Nat := ((List.range w).filter fun j => decide (ld S j)).length
theorem dim_sm {w : Nat} {a b : List (Vc p)} (h : Sm a b) : dim w (spn a) = dim w (spn b) := by
  have e : spn a = spn b := funext fun v => propext (h v)
  rw [e]
/-- echelon rows with their leads, ascending -/
def Ech : List (Vc p × Nat) → Prop
  | [] => True
  | (r, l) :: rest => Fst r l ∧ (∀ q ∈ rest, l < q.2) ∧ Ech rest
theorem ech_low : ∀ {rl : List (Vc p × Nat)} {l : Nat} {v : Vc p}, Ech rl → (∀ q ∈ rl, l < q.2) → spn (rl.map (·.1)) v → ∀ i, i ≤ l → v i = 0
  | [], l, v, _, _, h, i, _ => by
    have : v = zv := h
    rw [this]
    rfl
  | (r, k) :: rest, l, v, ⟨h1, h2, h3⟩, hl, ⟨c, v', hv, e⟩, i, hi => by
    have hk : l < k := hl (r, k) (by simp)
    have e1 := ech_low h3 (fun q hq => hl q (by simp [hq])) hv i hi
    have e2 := h1.2 i (by omega)
    rw [e]
    show c * r i + v' i = 0
    rw [e1, e2]
    grind
theorem mul_ne (hF : Fld p) {a b : Fin p} (ha : a ≠ 0) (hb : b ≠ 0) : a * b ≠ 0 := by
  intro h
  obtain ⟨c, hc⟩ := hF a ha
  apply hb
  grind
theorem ech_ld (hF : Fld p) : ∀ {rl : List (Vc p × Nat)} {j : Nat}, Ech rl → (ld (spn (rl.map (·.1))) j ↔ j ∈ rl.map (·.2))
  | [], j, _ => by
    constructor
    · rintro ⟨v, hv, h, _⟩
      have : v = zv := hv
      rw [this] at h
      exact absurd rfl h
    · intro h
      simp at h
  | (r, l) :: rest, j, ⟨h1, h2, h3⟩ => by
    have ih := ech_ld hF (j := j) h3
    rw [List.map_cons, List.map_cons, List.mem_cons]
    constructor
    · rintro ⟨v, ⟨c, v', hv, e⟩, hf⟩
      by_cases hc : c = 0
      · subst hc
        have e' : v = v' := by rw [e]; funext i; simp only [lin]; grind
        exact .inr (ih.mp ⟨v', hv, e' ▸ hf⟩)
      · left
        have low := ech_low h3 h2 hv
        refine hf.inj ⟨?_, fun i hi => ?_⟩
        · rw [e]
          show c * r l + v' l ≠ 0
          rw [low l (Nat.le_refl _)]
          have := mul_ne hF hc h1.1
          grind
        · rw [e]
          show c * r i + v' i = 0
          rw [low i (Nat.le_of_lt hi), h1.2 i hi]
          grind
    · rintro (e | h)
      · subst e
        exact ⟨r, spn_head _ _, h1⟩
      · obtain ⟨v, hv, hf⟩ := ih.mpr h
        exact ⟨v, spn_tail hv, hf⟩
theorem ech_nd : ∀ {rl : List (Vc p × Nat)}, Ech rl → (rl.map (·.2)).Nodup
  | [], _ => List.nodup_nil
  | (r, l) :: rest, ⟨_, h2, h3⟩ => by
    rw [List.map_cons, List.nodup_cons]
    refine ⟨fun h => ?_, ech_nd h3⟩
    obtain ⟨q, hq, e⟩ := List.mem_map.mp h
    have := h2 q hq
    omega
theorem ech_dim (hF : Fld p) {w : Nat} {rl : List (Vc p × Nat)} (h : Ech rl) (hw : ∀ q ∈ rl, q.2 < w) : dim w (spn (rl.map (·.1))) = rl.length := by
  have e : ((List.range w).filter fun j => decide (ld (spn (rl.map (·.1))) j)).Perm (rl.map (·.2)) := by
    rw [List.perm_ext_iff_of_nodup (List.nodup_range.filter _) (ech_nd h)]
    intro j
    rw [List.mem_filter, List.mem_range, decide_eq_true_eq, ech_ld hF h]
    constructor
    · exact fun h => h.2
    · intro hj
      obtain ⟨q, hq, e⟩ := List.mem_map.mp hj
      exact ⟨by rw [← e]; exact hw q hq, hj⟩
  unfold dim
  rw [e.length_eq, List.length_map]
/-! ### one row more -/
theorem fst_ex {w : Nat} {v : Vc p} (hv : ∀ i, w ≤ i → v i = 0) (hn : v ≠ zv) : ∃ j, j < w ∧ Fst v j := by
  have : ∃ j, v j ≠ 0 := by
    apply Classical.byContradiction
    intro h
    apply hn
    funext i
    exact Classical.byContradiction fun hi => h ⟨i, hi⟩
  obtain ⟨j, hj⟩ := this
  have key : ∀ n, v n ≠ 0 → ∃ j, j ≤ n ∧ Fst v j := by
    intro n
    induction n using Nat.strongRecOn with
    | _ n ih =>
      intro hn
      by_cases h : ∃ i, i < n ∧ v i ≠ 0
      · obtain ⟨i, hi, hv⟩ := h
        obtain ⟨j, hj, hf⟩ := ih i hi hv
        exact ⟨j, by omega, hf⟩
      · exact ⟨n, Nat.le_refl _, hn, fun i hi => Classical.byContradiction fun z => h ⟨i, hi, z⟩⟩
  obtain ⟨k, hk, hf⟩ := key j hj
  refine ⟨k, Nat.lt_of_not_le fun h => hf.1 (hv k h), hf⟩
/-- a row less the rows' leads -/
theorem red_ex (hF : Fld p) : ∀ {rl : List (Vc p × Nat)} (v : Vc p), Ech rl → ∃ u : Vc p, spn (rl.map (·.1)) (fun i => v i - u i) ∧ (∀ q ∈ rl, u q.2 = 0)
  | [], v, _ => ⟨v, by show (fun i => v i - v i) = zv; funext i; simp only [zv]; grind, fun q hq => by simp at hq⟩
  | (r, l) :: rest, v, ⟨h1, h2, h3⟩ => by
    obtain ⟨b, hb⟩ := hF (r l) h1.1
    obtain ⟨u, hu, hz⟩ := red_ex hF (fun i => v i - (v l * b) * r i) h3
    refine ⟨u, ⟨v l * b, fun i => (v i - (v l * b) * r i) - u i, hu, ?_⟩, fun q hq => ?_⟩
    · funext i; simp only [lin]; grind
    · rcases List.mem_cons.mp hq with e | e
      · subst e
        have low := ech_low h3 h2 hu l (Nat.le_refl _)
        simp only at low ⊢
        grind
      · exact hz q e
theorem ech_ins : ∀ {rl : List (Vc p × Nat)} {v : Vc p} {l : Nat}, Ech rl → Fst v l → l ∉ rl.map (·.2) → ∃ rl', Ech rl' ∧ rl'.Perm ((v, l) :: rl)
  | [], v, l, _, hf, _ => ⟨[(v, l)], ⟨hf, by simp, trivial⟩, List.Perm.refl _⟩
  | (r, k) :: rest, v, l, ⟨h1, h2, h3⟩, hf, hn => by
    rw [List.map_cons, List.mem_cons, not_or] at hn
    by_cases hlk : l < k
    · refine ⟨(v, l) :: (r, k) :: rest, ⟨hf, fun q hq => ?_, h1, h2, h3⟩, List.Perm.refl _⟩
      rcases List.mem_cons.mp hq with e | e
      · rw [e]; exact hlk
      · exact Nat.lt_trans hlk (h2 q e)
    · obtain ⟨rl', e1, e2⟩ := ech_ins h3 hf hn.2
      refine ⟨(r, k) :: rl', ⟨h1, fun q hq => ?_, e1⟩, (e2.cons (r, k)).trans (List.Perm.swap _ _ _)⟩
      rcases List.mem_cons.mp (e2.mem_iff.mp hq) with e | e
      · rw [e]
        have h := hn.1
        simp only at h ⊢
        omega
      · exact h2 q e
def Sup (w : Nat) (v : Vc p) : Prop := ∀ i, w ≤ i → v i = 0
theorem spn_sup {w : Nat} : ∀ {rs : List (Vc p)} {v : Vc p}, (∀ r ∈ rs, Sup w r) → spn rs v → Sup w v
  | [], v, _, h => by
    have : v = zv := h
    rw [this]
    exact fun _ _ => rfl
  | r :: rs, v, hr, ⟨c, v', h, e⟩ => fun i hi => by
    have e1 := spn_sup (fun q hq => hr q (by simp [hq])) h i hi
    have e2 := hr r (by simp) i hi
    rw [e]
    show c * r i + v' i = 0
    rw [e1, e2]
    grind
/-- how many rows are no sums of those behind -/
noncomputable def inc : List (Vc p) → Nat
  | [] => 0
  | r :: rs => inc rs + if spn rs r then 0 else 1
theorem base_ex (hF : Fld p) {w : Nat} : ∀ {rs : List (Vc p)}, (∀ r ∈ rs, Sup w r) → ∃ rl : List (Vc p × Nat), Ech rl ∧ (∀ q ∈ rl, q.2 < w) ∧ Sm (rl.map (·.1)) rs ∧ rl.length = inc rs
  | [], _ => ⟨[], trivial, by simp, Sm.refl _, rfl⟩
  | r :: rs, hr => by
    obtain ⟨rl, e1, e2, e3, e4⟩ := base_ex hF (rs := rs) fun q hq => hr q (by simp [hq])
    by_cases hs : spn rs r
    · exact ⟨rl, e1, e2, e3.trans (sm_in hs).symm, by unfold inc; rw [if_pos hs, e4]; rfl⟩
    · obtain ⟨u, hu, hz⟩ := red_ex hF r e1
      have su : Sup w u := fun i hi => by
        have q1 := spn_sup (w := w) (fun q hq => hr q (by simp [hq])) ((e3 _).mp hu) i hi
        have q2 := hr r (by simp) i hi
        rw [q2] at q1
        grind
      have hn : u ≠ zv := fun e => by
        apply hs
        rw [← e3 r]
        have e' : (fun i => r i - u i) = r := by rw [e]; funext i; simp only [zv]; grind
        rw [← e']
        exact hu
      obtain ⟨l, hl, hf⟩ := fst_ex su hn
      have hnl : l ∉ rl.map (·.2) := fun h => by
        obtain ⟨q, hq, e⟩ := List.mem_map.mp h
        have := hz q hq
        rw [e] at this
        exact hf.1 this
      obtain ⟨rl', g1, g2⟩ := ech_ins e1 hf hnl
      refine ⟨rl', g1, fun q hq => ?_, ?_, ?_⟩
      · rcases List.mem_cons.mp (g2.mem_iff.mp hq) with e | e
        · rw [e]; exact hl
        · exact e2 q e
      · refine (sm_perm (g2.map (·.1))).trans ?_
        rw [List.map_cons]
        refine Sm.trans (b := r :: rl.map (·.1)) (sm_of (fun q hq => ?_) (fun q hq => ?_)) (sm_cons e3)
        · rcases List.mem_cons.mp hq with e | e
          · rw [e]
            have h1 := spn_lin (a := -1) (spn_tail (r := r) hu) (spn_head r (rl.map (·.1)))
            have e' : lin (-1) (fun i => r i - u i) r = u := by funext i; simp only [lin]; grind
            rw [e'] at h1
            exact h1
          · exact spn_tail (spn_mem e)
        · rcases List.mem_cons.mp hq with e | e
          · rw [e]
            have h1 := spn_lin (a := 1) (spn_tail (r := u) hu) (spn_head u (rl.map (·.1)))
            have e' : lin 1 (fun i => r i - u i) u = r := by funext i; simp only [lin]; grind
            rw [e'] at h1
            exact h1
          · exact spn_tail (spn_mem e)
      · rw [g2.length_eq]
        unfold inc
        rw [if_neg hs, ← e4]
        rfl
theorem dim_inc (hF : Fld p) {w : Nat} {rs : List (Vc p)} (h : ∀ r ∈ rs, Sup w r) : dim w (spn rs) = inc rs := by
  obtain ⟨rl, e1, e2, e3, e4⟩ := base_ex hF h
  rw [← dim_sm e3, ech_dim hF e1 e2, e4]
/-- injective linear maps keep it -/
structure Lin (L : Vc p → Vc p) : Prop where
  lin : ∀ c u v, L (La.lin c u v) = La.lin c (L u) (L v)
  zero : L zv = zv
  inj : ∀ u v, L u = L v → u = v
theorem spn_map {L : Vc p → Vc p} (hL : Lin L) : ∀ {rs : List (Vc p)} {v : Vc p}, spn (rs.map L) v ↔ ∃ u, spn rs u ∧ v = L u
  | [], v => by
    constructor
    · intro h
      exact ⟨zv, rfl, by rw [hL.zero]; exact h⟩
    · rintro ⟨u, hu, e⟩
      have : u = zv := hu
      rw [e, this, hL.zero]
      rfl
  | r :: rs, v => by
    constructor
    · rintro ⟨c, v', h, e⟩
      obtain ⟨u, hu, e2⟩ := (spn_map hL).mp h
      exact ⟨lin c r u, ⟨c, u, hu, rfl⟩, by rw [hL.lin, ← e2, e]⟩
    · rintro ⟨u, ⟨c, u', hu, e⟩, e2⟩
      exact ⟨c, L u', (spn_map hL).mpr ⟨u', hu, rfl⟩, by rw [e2, e, hL.lin]⟩
theorem spn_map' {L : Vc p → Vc p} (hL : Lin L) {rs : List (Vc p)} {v : Vc p} : spn (rs.map L) (L v) ↔ spn rs v := by
  rw [spn_map hL]
  constructor
  · rintro ⟨u, hu, e⟩
    rw [hL.inj v u e]
    exact hu
  · exact fun h => ⟨v, h, rfl⟩
theorem inc_map {L : Vc p → Vc p} (hL : Lin L) : ∀ rs : List (Vc p), inc (rs.map L) = inc rs
  | [] => rfl
  | r :: rs => by
    show inc (rs.map L) + (if spn (rs.map L) (L r) then 0 else 1) = inc rs + if spn rs r then 0 else 1
    rw [inc_map hL rs]
    simp only [spn_map' hL]
/-! ### the sum over all lots -/
/-- Pl f base rows: the sum over all parts of the rows, with signs -/
def Pl (f : List (Vc p) → Int) : List (Vc p) → List (Vc p) → Int
  | base, [] => f base
  | base, r :: rows => Pl f base rows - Pl f (r :: base) rows
def Inv (f : List (Vc p) → Int) : Prop := ∀ a b, Sm a b → f a = f b
theorem pl_sm {f : List (Vc p) → Int} (hf : Inv f) : ∀ {rows a b : List (Vc p)}, Sm a b → Pl f a rows = Pl f b rows
  | [], a, b, h => hf a b h
  | r :: rows, a, b, h => by
    show Pl f a rows - Pl f (r :: a) rows = Pl f b rows - Pl f (r :: b) rows
    rw [pl_sm hf h, pl_sm hf (sm_cons h)]
theorem pl_in {f : List (Vc p) → Int} (hf : Inv f) : ∀ {rows a : List (Vc p)}, (∃ r ∈ rows, spn a r) → Pl f a rows = 0
  | [], a, ⟨r, h, _⟩ => by simp at h
  | q :: rows, a, ⟨r, h, hs⟩ => by
    show Pl f a rows - Pl f (q :: a) rows = 0
    rcases List.mem_cons.mp h with e | e
    · subst e
      rw [pl_sm hf (sm_in hs)]
      omega
    · rw [pl_in hf ⟨r, e, hs⟩, pl_in hf ⟨r, e, spn_tail hs⟩]
      rfl
theorem pl_perm {f : List (Vc p) → Int} (hf : Inv f) {r1 r2 : List (Vc p)} (h : r1.Perm r2) : ∀ a, Pl f a r1 = Pl f a r2 := by
  induction h with
  | nil => exact fun _ => rfl
  | cons r _ ih =>
    intro a
    show Pl f a _ - Pl f (r :: a) _ = Pl f a _ - Pl f (r :: a) _
    rw [ih, ih]
  | swap x y l =>
    intro a
    show (Pl f a l - Pl f (x :: a) l) - (Pl f (y :: a) l - Pl f (x :: y :: a) l) = (Pl f a l - Pl f (y :: a) l) - (Pl f (x :: a) l - Pl f (y :: x :: a) l)
    rw [pl_sm hf (sm_swap x y a)]
    omega
  | trans _ _ ih1 ih2 => exact fun a => (ih1 a).trans (ih2 a)
theorem pl_dup {f : List (Vc p) → Int} (hf : Inv f) {r : Vc p} {rows a : List (Vc p)} (h : r ∈ rows) : Pl f a (r :: rows) = Pl f a rows := by
  show Pl f a rows - Pl f (r :: a) rows = Pl f a rows
  rw [pl_in hf (a := r :: a) ⟨r, h, spn_head r a⟩]
  omega
/-- rows that are there already -/
theorem pl_more {f : List (Vc p) → Int} (hf : Inv f) : ∀ {ts rows a : List (Vc p)}, (∀ t ∈ ts, t ∈ rows) → Pl f a (ts ++ rows) = Pl f a rows
  | [], rows, a, _ => rfl
  | t :: ts, rows, a, h => by
    show Pl f a (t :: (ts ++ rows)) = _
    rw [pl_dup hf (List.mem_append_right _ (h t (by simp)))]
    exact pl_more hf fun q hq => h q (by simp [hq])
/-- as sets -/
theorem pl_set {f : List (Vc p) → Int} (hf : Inv f) {r1 r2 a : List (Vc p)} (h : ∀ r, r ∈ r1 ↔ r ∈ r2) : Pl f a r1 = Pl f a r2 := by
  rw [← pl_more hf (ts := r1) (rows := r2) (a := a) fun t ht => (h t).mp ht, ← pl_more hf (ts := r2) (rows := r1) (a := a) fun t ht => (h t).mpr ht]
  exact pl_perm hf List.perm_append_comm a
/-- a row more that is c times a bad one and a sum -/
theorem pl_beside {f : List (Vc p) → Int} (hf : Inv f) {r b : Vc p} {rows a : List (Vc p)} (hb : b ∈ rows) (h : spn (r :: a) b) : Pl f a (r :: rows) = Pl f a rows := by
  show Pl f a rows - Pl f (r :: a) rows = Pl f a rows
  rw [pl_in hf (a := r :: a) ⟨b, hb, h⟩]
  omega
theorem pl_last {f : List (Vc p) → Int} (hf : Inv f) {r : Vc p} {rows a : List (Vc p)} : Pl f a (rows ++ [r]) = Pl f a rows - Pl f (r :: a) rows :=
  (pl_perm hf (List.perm_append_comm (l₁ := rows) (l₂ := [r])) a).trans rfl
/-- f of the maps -/
theorem pl_map {f g : List (Vc p) → Int} {L : Vc p → Vc p} : ∀ {rows a : List (Vc p)}, (∀ b, (∀ r ∈ b, r ∈ a ∨ r ∈ rows) → f (b.map L) = g b) → Pl f (a.map L) (rows.map L) = Pl g a rows
  | [], a, h => h a fun r hr => .inl hr
  | r :: rows, a, h => by
    show Pl f (a.map L) (rows.map L) - Pl f ((r :: a).map L) (rows.map L) = Pl g a rows - Pl g (r :: a) rows
    have h1 := pl_map (f := f) (g := g) (L := L) (rows := rows) (a := a) fun b hb => h b fun q hq => (hb q hq).elim .inl fun e => .inr (by simp [e])
    have h2 := pl_map (f := f) (g := g) (L := L) (rows := rows) (a := r :: a) fun b hb => h b fun q hq => (hb q hq).elim (fun e => (List.mem_cons.mp e).elim (fun e => .inr (by simp [e])) .inl) fun e => .inr (by simp [e])
    rw [h1, h2]
end
end La
end

section
set_option Elab.async false
set_option linter.all false
set_option maxRecDepth 100000
set_option maxHeartbeats 4000000
/-! Evaluation by rewriting. -/
namespace Dp
open PySem PySem.Spec PyProof.Rows
/-! ### rows of numbers, lists of them -/
abbrev pt (l : List Int) : D := .tup (l.map D.int)
abbrev pl (ps : List (List Int)) : D := .lst (ps.map pt)
theorem py_ints : ∀ l : List Int, D.pys (l.map D.int) = some (l.map PyData.int)
  | [] => rfl
  | i :: l => by
    show (D.py (.int i)).bind (fun p => (D.pys (l.map D.int)).map fun ps => p :: ps) = _
    rw [py_ints l]
    rfl
theorem py_pt (l : List Int) : D.py (pt l) = some (.tuple (l.map PyData.int)) := by
  show (D.pys (l.map D.int)).map PyData.tuple = _
  rw [py_ints]
  rfl
theorem py_pts : ∀ ps : List (List Int), D.pys (ps.map pt) = some (ps.map fun l => PyData.tuple (l.map PyData.int))
  | [] => rfl
  | l :: ps => by
    show (D.py (pt l)).bind (fun p => (D.pys (ps.map pt)).map fun qs => p :: qs) = _
    rw [py_pts ps, py_pt]
    rfl
theorem py_pl (ps : List (List Int)) : D.py (pl ps) = some (.list (ps.map fun l => PyData.tuple (l.map PyData.int))) := by
  show (D.pys (ps.map pt)).map PyData.list = _
  rw [py_pts]
  rfl
theorem eqv_ints : ∀ a b : List Int, PyData.eqvAll (a.map PyData.int) (b.map PyData.int) = decide (a = b)
  | [], [] => rfl
  | [], _ :: _ => by simp [PyData.eqvAll]
  | _ :: _, [] => by simp [PyData.eqvAll]
  | i :: a, j :: b => by
    have ih := eqv_ints a b
    show (PyData.eqv (.int i) (.int j) && PyData.eqvAll (a.map PyData.int) (b.map PyData.int)) = _
    rw [ih, Bool.eq_iff_iff]
    show ((i == j) && decide (a = b)) = true ↔ _
    simp
theorem eqv_pts : ∀ a b : List (List Int), PyData.eqvAll (a.map fun l => PyData.tuple (l.map PyData.int)) (b.map fun l => PyData.tuple (l.map PyData.int)) = decide (a = b)
  | [], [] => rfl
  | [], _ :: _ => by simp [PyData.eqvAll]
  | _ :: _, [] => by simp [PyData.eqvAll]
  | i :: a, j :: b => by
    have ih := eqv_pts a b
    show (PyData.eqvAll (i.map PyData.int) (j.map PyData.int) && PyData.eqvAll (a.map fun l => PyData.tuple (l.map PyData.int)) (b.map fun l => PyData.tuple (l.map PyData.int))) = _
    rw [ih, eqv_ints, Bool.eq_iff_iff]
    simp
theorem sh_ints : ∀ l : List Int, PyData.canLayAll0 (l.map PyData.int) = true ∧ PyData.depthAll (l.map PyData.int) = 0
  | [] => ⟨rfl, rfl⟩
  | i :: l => by
    obtain ⟨h1, h2⟩ := sh_ints l
    exact ⟨by show (true && PyData.canLayAll0 (l.map PyData.int)) = true; rw [h1]; rfl, by show max 0 (PyData.depthAll (l.map PyData.int)) = 0; rw [h2]; rfl⟩
theorem sh_int (i : Int) : SeqAt.shaped (.int i) = true := rfl
theorem sh_pt (l : List Int) : SeqAt.shaped (.tuple (l.map PyData.int)) = true := by
  obtain ⟨h1, h2⟩ := sh_ints l
  show (PyData.canLayAll0 (l.map PyData.int) && decide (PyData.depthAll (l.map PyData.int) + 1 ≤ 64)) = true
  rw [h1, h2]
  rfl
theorem sh_pts : ∀ ps : List (List Int), PyData.canLayAll0 (ps.map fun l => PyData.tuple (l.map PyData.int)) = true ∧ PyData.depthAll (ps.map fun l => PyData.tuple (l.map PyData.int)) ≤ 1
  | [] => ⟨rfl, Nat.zero_le _⟩
  | l :: ps => by
    obtain ⟨h1, h2⟩ := sh_pts ps
    obtain ⟨g1, g2⟩ := sh_ints l
    refine ⟨by show (PyData.canLayAll0 (l.map PyData.int) && PyData.canLayAll0 (ps.map fun l => PyData.tuple (l.map PyData.int))) = true; rw [h1, g1]; rfl, ?_⟩
    show max (PyData.depthAll (l.map PyData.int) + 1) (PyData.depthAll (ps.map fun l => PyData.tuple (l.map PyData.int))) ≤ 1
    rw [g2]
    omega
theorem sh_pl (ps : List (List Int)) : SeqAt.shaped (.list (ps.map fun l => PyData.tuple (l.map PyData.int))) = true := by
  obtain ⟨h1, h2⟩ := sh_pts ps
  show (PyData.canLayAll0 _ && decide (PyData.depthAll _ + 1 ≤ 64)) = true
  rw [h1, Bool.true_and, decide_eq_true_eq]
  omega
theorem eq_int (i j : Int) : eqD? (.int i) (.int j) = some (decide (i = j)) := by
  show some (i == j) = _
  congr 1
theorem eq_pt (a b : List Int) : eqD? (pt a) (pt b) = some (decide (a = b)) := by
  unfold eqD?
  rw [py_pt, py_pt]
  dsimp only
  rw [sh_pt, sh_pt, ← eqv_ints]
  rfl
theorem eq_pl (a b : List (List Int)) : eqD? (pl a) (pl b) = some (decide (a = b)) := by
  unfold eqD?
  rw [py_pl, py_pl]
  dsimp only
  rw [sh_pl, sh_pl, ← eqv_pts]
  rfl
theorem any_pts (a : List Int) : ∀ ps : List (List Int), ((ps.map fun l => PyData.tuple (l.map PyData.int)).any fun z => PyData.eqv z (.tuple (a.map PyData.int))) = decide (a ∈ ps)
  | [] => by simp
  | l :: ps => by
    rw [List.map_cons, List.any_cons, any_pts a ps]
    show (PyData.eqvAll (l.map PyData.int) (a.map PyData.int) || decide (a ∈ ps)) = _
    rw [eqv_ints, Bool.eq_iff_iff]
    simp only [Bool.or_eq_true, decide_eq_true_eq, List.mem_cons]
    exact ⟨fun h => h.imp Eq.symm id, fun h => h.imp Eq.symm id⟩
theorem in_pl (a : List Int) (ps : List (List Int)) : inD? (pt a) (pl ps) = some (decide (a ∈ ps)) := by
  show (match (pt a).py, D.pys (ps.map pt) with
    | some p, some qs => if (SeqAt.shaped p && SeqAt.shaped (.list qs)) = true then some (qs.any fun z => PyData.eqv z p) else none
    | _, _ => none) = _
  rw [py_pt, py_pts]
  dsimp only
  rw [sh_pt, sh_pl, any_pts]
  rfl
theorem nums_ints : ∀ l : List Int, D.nums (l.map D.int) = some l
  | [] => rfl
  | i :: l => by
    show (D.nums (l.map D.int)).map _ = _
    rw [nums_ints l]
    rfl
/-! ### the readings by rewriting -/
@[simp] theorem st_ok {α : Type} (a : α) (m : Mu) (s : Sl) (f : α → Mu → SR) : (R.ok a m).st s f = f a m := rfl
@[simp] theorem then_nx (s : Sl) (m : Mu) (f : Sl → Mu → SR) : (SR.nx s m).then_ f = f s m := rfl
@[simp] theorem then_rt (v : SV) (m : Mu) (f : Sl → Mu → SR) : (SR.rt v m).then_ f = .rt v m := rfl
@[simp] theorem back_nx (s : Sl) (m : Mu) : (SR.nx s m).back = .ok (.val .non) m := rfl
@[simp] theorem back_rt (v : SV) (m : Mu) : (SR.rt v m).back = .ok v m := rfl
@[simp] theorem guard_true {α : Type} (r : R α) : guardR true r = r := rfl
@[simp] theorem fz_val (d : D) : (SV.val d).fz = d := rfl
@[simp] theorem fz_own (c : Cell) : (SV.own c).fz = c.fz := rfl
@[simp] theorem fz_lst (ds : List D) : (Cell.lst ds).fz = .lst ds := rfl
@[simp] theorem fz_dk (ks : List L2.Key) (ds : List D) : (Cell.dk ks ds).fz = .dk ks ds := rfl
@[simp] theorem fz_ins (c : Str) (ks : List Str) (ds : List D) : (Cell.ins c ks ds).fz = .ins c ks ds := rfl
@[simp] theorem see_int (m : Mu) (i : Int) : seeD m (.int i) = .int i := rfl
@[simp] theorem see_bl (m : Mu) (i : Bool) : seeD m (.bl i) = .bl i := rfl
@[simp] theorem see_tup (m : Mu) (i : List D) : seeD m (.tup i) = .tup i := rfl
@[simp] theorem see_lst (m : Mu) (i : List D) : seeD m (.lst i) = .lst i := rfl
@[simp] theorem see_seq (m : Mu) (i : List D) : seeD m (.seq i) = .seq i := rfl
@[simp] theorem see_dk (m : Mu) (k : List L2.Key) (i : List D) : seeD m (.dk k i) = .dk k i := rfl
@[simp] theorem see_ins (m : Mu) (c : Str) (k : List Str) (i : List D) : seeD m (.ins c k i) = .ins c k i := rfl
@[simp] theorem b_add (i j : Int) (m : Mu) : opB .add (.int i) (.int j) m = .ok (.val (.int (i + j))) m := rfl
@[simp] theorem b_sub (i j : Int) (m : Mu) : opB .sub (.int i) (.int j) m = .ok (.val (.int (i - j))) m := rfl
@[simp] theorem b_band (i j : Int) (m : Mu) : opB .band (.int i) (.int j) m = .ok (.val (.int (Builtin.bitAnd i j))) m := rfl
theorem b_mod {i j : Int} {m : Mu} (h : 0 < j) : opB .mod (.int i) (.int j) m = .ok (.val (.int (i % j))) m := by
  show guardR (decide (0 < j)) _ = _
  rw [decide_eq_true h]
  rfl
theorem b_fdiv {i j : Int} {m : Mu} (h : 0 < j) (h2 : j < 1073741824) : opB .fdiv (.int i) (.int j) m = .ok (.val (.int (i / j))) m := by
  show guardR (decide (0 < j) && decide (j < 1073741824)) _ = _
  rw [decide_eq_true h, decide_eq_true h2]
  rfl
theorem small_of {i : Int} (h1 : -(2 ^ 64) < i) (h2 : i < 2 ^ 64) : small64 i = true := by
  unfold small64
  rw [decide_eq_true h1, decide_eq_true h2]
  rfl
theorem b_mul {i j : Int} {m : Mu} (h : (-(2 ^ 64) < i ∧ i < 2 ^ 64) ∨ (-(2 ^ 64) < j ∧ j < 2 ^ 64)) : opB .mul (.int i) (.int j) m = .ok (.val (.int (i * j))) m := by
  show guardR (small64 i || small64 j) _ = _
  rcases h with h | h
  · rw [small_of h.1 h.2]
    rfl
  · rw [small_of h.1 h.2, Bool.or_true]
    rfl
theorem r62_of {n : Int} (h1 : -1000000 ≤ n) (h2 : n ≤ 1000000) : r62 n = true := by
  unfold r62
  rw [Bool.and_eq_true, decide_eq_true_eq, decide_eq_true_eq]
  omega
theorem r62_nat {n : Nat} (h : n ≤ 1000) : r62 (n : Int) = true := r62_of (Int.le_trans (by decide) (Int.natCast_nonneg n)) (Int.le_trans (Int.ofNat_le.mpr h) (by decide))
theorem b_mulS {i j : Int} {m : Mu} (h : -1000000 ≤ j) (h2 : j ≤ 1000000) : opB .mul (.int i) (.int j) m = .ok (.val (.int (i * j))) m := b_mul (.inr ⟨by omega, by omega⟩)
theorem c_of {o : CO} {a b : D} {m : Mu} {r : Bool} (h : cmpD? o a b = some r) : opC o a b m = .ok (.val (.bl r)) m := by
  unfold opC
  rw [h]
@[simp] theorem c_lt (i j : Int) (m : Mu) : opC .lt (.int i) (.int j) m = .ok (.val (.bl (decide (i < j)))) m := rfl
@[simp] theorem c_le (i j : Int) (m : Mu) : opC .le (.int i) (.int j) m = .ok (.val (.bl (decide (i ≤ j)))) m := rfl
@[simp] theorem c_gt (i j : Int) (m : Mu) : opC .gt (.int i) (.int j) m = .ok (.val (.bl (decide (j < i)))) m := rfl
@[simp] theorem c_ge (i j : Int) (m : Mu) : opC .ge (.int i) (.int j) m = .ok (.val (.bl (decide (j ≤ i)))) m := rfl
@[simp] theorem c_eq (i j : Int) (m : Mu) : opC .eq (.int i) (.int j) m = .ok (.val (.bl (decide (i = j)))) m := c_of (eq_int i j)
@[simp] theorem c_ne (i j : Int) (m : Mu) : opC .ne (.int i) (.int j) m = .ok (.val (.bl (!decide (i = j)))) m := c_of (show (eqD? (.int i) (.int j)).map not = some (!decide (i = j)) by rw [eq_int]; rfl)
@[simp] theorem c_eqpt (i j : List Int) (m : Mu) : opC .eq (pt i) (pt j) m = .ok (.val (.bl (decide (i = j)))) m := c_of (eq_pt i j)
@[simp] theorem c_nept (i j : List Int) (m : Mu) : opC .ne (pt i) (pt j) m = .ok (.val (.bl (!decide (i = j)))) m := c_of (show (eqD? (pt i) (pt j)).map not = some (!decide (i = j)) by rw [eq_pt]; rfl)
@[simp] theorem c_eqpl (i j : List (List Int)) (m : Mu) : opC .eq (pl i) (pl j) m = .ok (.val (.bl (decide (i = j)))) m := c_of (eq_pl i j)
@[simp] theorem c_in (i : List Int) (j : List (List Int)) (m : Mu) : opC .inn (pt i) (pl j) m = .ok (.val (.bl (decide (i ∈ j)))) m := c_of (in_pl i j)
@[simp] theorem c_nin (i : List Int) (j : List (List Int)) (m : Mu) : opC .nin (pt i) (pl j) m = .ok (.val (.bl (!decide (i ∈ j)))) m := c_of (show (inD? (pt i) (pl j)).map not = some (!decide (i ∈ j)) by rw [in_pl]; rfl)
@[simp] theorem t_bl (b : Bool) : truthD (.bl b) = some b := rfl
@[simp] theorem t_int (b : Int) : truthD (.int b) = some (b != 0) := rfl
theorem atI_nat {α : Type} {xs : List α} {i : Nat} {d : α} (h : xs[i]? = some d) : L2.atI xs (i : Int) = some d := by
  have hi := (List.getElem?_eq_some_iff.mp h).1
  unfold L2.atI L2.ixN
  rw [if_pos (by omega), if_pos (by omega)]
  exact h
theorem ix_tup {ds : List D} {i : Int} {d : D} {m : Mu} (h0 : 0 ≤ i) (h : ds[i.toNat]? = some d) : opIx (.tup ds) (.int i) m = .ok (.val d) m := by
  have e := atI_nat h
  rw [Int.toNat_of_nonneg h0] at e
  show (match L2.atI ds i with | some d => R.ok (SV.val d) m | none => R.bad) = _
  rw [e]
theorem ix_lst {ds : List D} {i : Int} {d : D} {m : Mu} (h0 : 0 ≤ i) (h : ds[i.toNat]? = some d) : opIx (.lst ds) (.int i) m = .ok (.val d) m := ix_tup h0 h
theorem ix_seq {ds : List D} {i : Int} {d : D} {m : Mu} (h0 : 0 ≤ i) (h : ds[i.toNat]? = some d) : opIx (.seq ds) (.int i) m = .ok (.val d) m := ix_tup h0 h
@[simp] theorem f_len_tup (ds : List D) (m : Mu) : opF .len [.tup ds] m = .ok (.val (.int ds.length)) m := rfl
@[simp] theorem f_len_seq (ds : List D) (m : Mu) : opF .len [.seq ds] m = .ok (.val (.int ds.length)) m := rfl
@[simp] theorem f_int (i : Int) (m : Mu) : opF .int [.int i] m = .ok (.val (.int i)) m := rfl
@[simp] theorem f_min (i j : Int) (m : Mu) : opF .min [.int i, .int j] m = .ok (.val (.int (if j < i then j else i))) m := rfl
@[simp] theorem f_max (i j : Int) (m : Mu) : opF .max [.int i, .int j] m = .ok (.val (.int (if j > i then j else i))) m := rfl
@[simp] theorem f_tuple_lst (ds : List D) (m : Mu) : opF .tuple [.lst ds] m = .ok (.val (.tup ds)) m := rfl
@[simp] theorem f_tuple_tup (ds : List D) (m : Mu) : opF .tuple [.tup ds] m = .ok (.val (.tup ds)) m := rfl
@[simp] theorem f_list_lst (ds : List D) (m : Mu) : opF .list [.lst ds] m = .ok (.own (.lst ds)) m := rfl
@[simp] theorem f_list_tup (ds : List D) (m : Mu) : opF .list [.tup ds] m = .ok (.own (.lst ds)) m := rfl
/-- a loop: the state told by a value -/
theorem forL_run {β : Type} {fg : List Nat} {F : D → Sl → Mu → SR} {m : Mu} (st : β → Sl) (step : β → D → β) (mid : β → D → Sl) (hw : ∀ b d, wipeS (mid b d) fg = st (step b d)) : ∀ (ds : List D) (b : β), (∀ b d, d ∈ ds → F d (st b) m = .nx (mid b d) m) → forL fg F ds (st b) m = .nx (st (ds.foldl step b)) m
  | [], b, _ => rfl
  | d :: ds, b, h => by
    have h1 := h b d (by simp)
    have ih := forL_run st step mid hw ds (step b d) fun b' d' hd => h b' d' (by simp [hd])
    unfold forL
    rw [h1]
    dsimp only
    rw [hw]
    exact ih
/-- .. with what holds of the value on the way -/
theorem forL_inv {β : Type} {fg : List Nat} {F : D → Sl → Mu → SR} (st : β → Sl) (mu : β → Mu) (step : β → D → β) (I : List D → β → Prop) : ∀ (ds : List D) (b : β), I ds b → (∀ d ds b, I (d :: ds) b → ∃ s1, (F d (st b) (mu b) = .nx s1 (mu (step b d)) ∨ F d (st b) (mu b) = .ct s1 (mu (step b d))) ∧ wipeS s1 fg = st (step b d) ∧ I ds (step b d)) → forL fg F ds (st b) (mu b) = .nx (st (ds.foldl step b)) (mu (ds.foldl step b)) ∧ I [] (ds.foldl step b)
  | [], b, hi, _ => ⟨rfl, hi⟩
  | d :: ds, b, hi, h => by
    obtain ⟨s1, h1, h2, h3⟩ := h d ds b hi
    have ih := forL_inv st mu step I ds (step b d) h3 h
    refine ⟨?_, ih.2⟩
    unfold forL
    rcases h1 with h1 | h1 <;> (rw [h1]; dsimp only; rw [h2]; exact ih.1)
/-- a comprehension without a test -/
theorem lcL_map {F : D → Mu → R (Option D)} {m : Mu} (g : D → D) : ∀ (ds acc : List D), acc.length + ds.length ≤ sizeLine → (∀ d ∈ ds, F d m = .ok (some (g d)) m) → lcL F ds acc m = .ok (acc ++ ds.map g) m
  | [], acc, _, _ => by simp [lcL]
  | d :: ds, acc, hl, h => by
    unfold lcL
    rw [h d (by simp)]
    simp only [R.bindN_ok]
    rw [decide_eq_true (by simp at hl; omega)]
    rw [guard_true, lcL_map g ds (acc ++ [g d]) (by simp at hl ⊢; omega) fun e he => h e (by simp [he])]
    simp
theorem lcL_filter {F : D → Mu → R (Option D)} {m : Mu} (q : D → Bool) (g : D → D) : ∀ (ds acc : List D), acc.length + ds.length ≤ sizeLine → (∀ d ∈ ds, F d m = .ok (if q d = true then some (g d) else none) m) → lcL F ds acc m = .ok (acc ++ (ds.filter q).map g) m
  | [], acc, _, _ => by simp [lcL]
  | d :: ds, acc, hl, h => by
    unfold lcL
    rw [h d (by simp)]
    simp only [R.bindN_ok]
    by_cases hq : q d = true
    · rw [if_pos hq]
      dsimp only
      rw [decide_eq_true (by simp at hl; omega)]
      rw [guard_true, lcL_filter q g ds (acc ++ [g d]) (by simp at hl ⊢; omega) fun e he => h e (by simp [he]), List.filter_cons_of_pos hq]
      simp
    · rw [if_neg hq]
      dsimp only
      rw [lcL_filter q g ds acc (by simp at hl; omega) fun e he => h e (by simp [he]), List.filter_cons_of_neg hq]
@[simp] theorem f_len_lst (ds : List D) (m : Mu) : opF .len [.lst ds] m = .ok (.val (.int ds.length)) m := rfl
end Dp
end

section
set_option Elab.async false
set_option linter.all false
set_option maxRecDepth 100000
set_option maxHeartbeats 4000000
namespace K94
open PySem PySem.Spec PyProof.Rows Dp
theorem callN_eq {n k : Nat} {ds : List D} {m : Mu} (f : Fn) (h : G.fns[k]? = some f) (hl : (fill f ds).length = f.ps.length) : callN G (n + 1) k ds m = (evSs G (callN G n) f.body (start0 f (fill f ds)) m).back := by
  show (match G.fns[k]? with
    | some f => if (fill f ds).length = f.ps.length then (evSs G (callN G n) f.body (start0 f (fill f ds)) m).back else .bad
    | none => .bad) = _
  rw [h]
  dsimp only
  rw [if_pos hl]
theorem o_0 (n : Nat) (a0 : D) (m : Mu) : callN G (n + 1) 0 [a0] m = (evSs G (callN G n) b_0 [some (.val a0), none, none, none, none, none, none, none, none, none, none, none] m).back := by
  rw [callN_eq f_0 rfl rfl]
  rfl
theorem o_1 (n : Nat) (a0 : D) (m : Mu) : callN G (n + 1) 1 [a0] m = (evSs G (callN G n) b_1 [some (.val a0), none, none, none, none, none] m).back := by
  rw [callN_eq f_1 rfl rfl]
  rfl
theorem o_2 (n : Nat) (a0 a1 : D) (m : Mu) : callN G (n + 1) 2 [a0, a1] m = (evSs G (callN G n) b_2 [some (.val a0), some (.val a1), none, none] m).back := by
  rw [callN_eq f_2 rfl rfl]
  rfl
theorem o_3 (n : Nat) (a0 a1 : D) (m : Mu) : callN G (n + 1) 3 [a0, a1] m = (evSs G (callN G n) b_3 [some (.val a0), some (.val a1)] m).back := by
  rw [callN_eq f_3 rfl rfl]
  rfl
theorem o_4 (n : Nat) (a0 a1 : D) (m : Mu) : callN G (n + 1) 4 [a0, a1] m = (evSs G (callN G n) b_4 [some (.val a0), some (.val a1), none, none, none, none, none] m).back := by
  rw [callN_eq f_4 rfl rfl]
  rfl
theorem o_5 (n : Nat) (a0 a1 : D) (m : Mu) : callN G (n + 1) 5 [a0, a1] m = (evSs G (callN G n) b_5 [some (.val a0), some (.val a1), none, none, none, none, none, none] m).back := by
  rw [callN_eq f_5 rfl rfl]
  rfl
theorem o_6 (n : Nat) (a0 a1 : D) (m : Mu) : callN G (n + 1) 6 [a0, a1] m = (evSs G (callN G n) b_6 [some (.val a0), some (.val a1), none, none] m).back := by
  rw [callN_eq f_6 rfl rfl]
  rfl
theorem o_7 (n : Nat) (a0 a1 a2 : D) (m : Mu) : callN G (n + 1) 7 [a0, a1, a2] m = (evSs G (callN G n) b_7 [some (.val a0), some (.val a1), some (.val a2), none, none] m).back := by
  rw [callN_eq f_7 rfl rfl]
  rfl
theorem o_8 (n : Nat) (a0 a1 a2 : D) (m : Mu) : callN G (n + 1) 8 [a0, a1, a2] m = (evSs G (callN G n) b_8 [some (.val a0), some (.val a1), some (.val a2), none, none, none] m).back := by
  rw [callN_eq f_8 rfl rfl]
  rfl
theorem o_9 (n : Nat) (a0 a1 : D) (m : Mu) : callN G (n + 1) 9 [a0, a1] m = (evSs G (callN G n) b_9 [some (.val a0), some (.val a1), none] m).back := by
  rw [callN_eq f_9 rfl rfl]
  rfl
theorem o_10 (n : Nat) (a0 a1 a2 : D) (m : Mu) : callN G (n + 1) 10 [a0, a1, a2] m = (evSs G (callN G n) b_10 [some (.val a0), some (.val a1), some (.val a2), none, none, none, none] m).back := by
  rw [callN_eq f_10 rfl rfl]
  rfl
theorem o_11 (n : Nat) (a0 a1 : D) (m : Mu) : callN G (n + 1) 11 [a0, a1] m = (evSs G (callN G n) b_11 [some (.val a0), some (.val a1), none, none] m).back := by
  rw [callN_eq f_11 rfl rfl]
  rfl
theorem o_12 (n : Nat) (a0 : D) (m : Mu) : callN G (n + 1) 12 [a0] m = (evSs G (callN G n) b_12 [some (.val a0)] m).back := by
  rw [callN_eq f_12 rfl rfl]
  rfl
theorem o_13 (n : Nat) (a0 : D) (m : Mu) : callN G (n + 1) 13 [a0] m = (evSs G (callN G n) b_13 [some (.val a0)] m).back := by
  rw [callN_eq f_13 rfl rfl]
  rfl
theorem o_14 (n : Nat) (a0 a1 a2 : D) (m : Mu) : callN G (n + 1) 14 [a0, a1, a2] m = (evSs G (callN G n) b_14 [some (.val a0), some (.val a1), some (.val a2), none] m).back := by
  rw [callN_eq f_14 rfl rfl]
  rfl
theorem o_15 (n : Nat) (a0 a1 a2 : D) (m : Mu) : callN G (n + 1) 15 [a0, a1, a2] m = (evSs G (callN G n) b_15 [some (.val a0), some (.val a1), some (.val a2), none, none] m).back := by
  rw [callN_eq f_15 rfl rfl]
  rfl
theorem o_16 (n : Nat) (a0 a1 a2 a3 : D) (m : Mu) : callN G (n + 1) 16 [a0, a1, a2, a3] m = (evSs G (callN G n) b_16 [some (.val a0), some (.val a1), some (.val a2), some (.val a3), none] m).back := by
  rw [callN_eq f_16 rfl rfl]
  rfl
theorem o_16' (n : Nat) (a0 a1 a2 : D) (m : Mu) : callN G (n + 1) 16 [a0, a1, a2] m = (evSs G (callN G n) b_16 [some (.val a0), some (.val a1), some (.val a2), some (.val (.gl "()")), none] m).back := by
  rw [callN_eq f_16 rfl rfl]
  rfl
theorem o_17 (n : Nat) (a0 a1 : D) (m : Mu) : callN G (n + 1) 17 [a0, a1] m = (evSs G (callN G n) b_17 [some (.val a0), some (.val a1), none, none] m).back := by
  rw [callN_eq f_17 rfl rfl]
  rfl
theorem o_18 (n : Nat) (a0 a1 a2 a3 : D) (m : Mu) : callN G (n + 1) 18 [a0, a1, a2, a3] m = (evSs G (callN G n) b_18 [some (.val a0), some (.val a1), some (.val a2), some (.val a3), none, none, none, none, none, none, none, none, none, none] m).back := by
  rw [callN_eq f_18 rfl rfl]
  rfl
theorem o_19 (n : Nat) (a0 a1 a2 a3 : D) (m : Mu) : callN G (n + 1) 19 [a0, a1, a2, a3] m = (evSs G (callN G n) b_19 [some (.val a0), some (.val a1), some (.val a2), some (.val a3), none, none, none, none, none, none] m).back := by
  rw [callN_eq f_19 rfl rfl]
  rfl
theorem o_20 (n : Nat) (a0 : D) (m : Mu) : callN G (n + 1) 20 [a0] m = (evSs G (callN G n) b_20 [some (.val a0), none, none] m).back := by
  rw [callN_eq f_20 rfl rfl]
  rfl
theorem o_21 (n : Nat) (a0 a1 a2 : D) (m : Mu) : callN G (n + 1) 21 [a0, a1, a2] m = (evSs G (callN G n) b_21 [some (.val a0), some (.val a1), some (.val a2), none, none] m).back := by
  rw [callN_eq f_21 rfl rfl]
  rfl
theorem o_22 (n : Nat) (a0 a1 a2 : D) (m : Mu) : callN G (n + 1) 22 [a0, a1, a2] m = (evSs G (callN G n) b_22 [some (.val a0), some (.val a1), some (.val a2), none, none] m).back := by
  rw [callN_eq f_22 rfl rfl]
  rfl
theorem o_23 (n : Nat) (a0 a1 : D) (m : Mu) : callN G (n + 1) 23 [a0, a1] m = (evSs G (callN G n) b_23 [some (.val a0), some (.val a1), none, none, none, none, none, none, none] m).back := by
  rw [callN_eq f_23 rfl rfl]
  rfl
theorem o_24 (n : Nat) (a0 a1 : D) (m : Mu) : callN G (n + 1) 24 [a0, a1] m = (evSs G (callN G n) b_24 [some (.val a0), some (.val a1)] m).back := by
  rw [callN_eq f_24 rfl rfl]
  rfl
theorem o_25 (n : Nat) (a0 a1 : D) (m : Mu) : callN G (n + 1) 25 [a0, a1] m = (evSs G (callN G n) b_25 [some (.val a0), some (.val a1), none, none] m).back := by
  rw [callN_eq f_25 rfl rfl]
  rfl
theorem o_26 (n : Nat) (a0 : D) (m : Mu) : callN G (n + 1) 26 [a0] m = (evSs G (callN G n) b_26 [some (.val a0)] m).back := by
  rw [callN_eq f_26 rfl rfl]
  rfl
theorem o_27 (n : Nat) (a0 a1 a2 : D) (m : Mu) : callN G (n + 1) 27 [a0, a1, a2] m = (evSs G (callN G n) b_27 [some (.val a0), some (.val a1), some (.val a2), none, none, none, none, none] m).back := by
  rw [callN_eq f_27 rfl rfl]
  rfl
theorem o_28 (n : Nat) (a0 : D) (m : Mu) : callN G (n + 1) 28 [a0] m = (evSs G (callN G n) b_28 [some (.val a0)] m).back := by
  rw [callN_eq f_28 rfl rfl]
  rfl
theorem o_29 (n : Nat) (a0 a1 a2 a3 : D) (m : Mu) : callN G (n + 1) 29 [a0, a1, a2, a3] m = (evSs G (callN G n) b_29 [some (.val a0), some (.val a1), some (.val a2), some (.val a3)] m).back := by
  rw [callN_eq f_29 rfl rfl]
  rfl
theorem o_30 (n : Nat) (a0 a1 a2 : D) (m : Mu) : callN G (n + 1) 30 [a0, a1, a2] m = (evSs G (callN G n) b_30 [some (.val a0), some (.val a1), some (.val a2), none, none, none] m).back := by
  rw [callN_eq f_30 rfl rfl]
  rfl
theorem o_31 (n : Nat) (a0 a1 : D) (m : Mu) : callN G (n + 1) 31 [a0, a1] m = (evSs G (callN G n) b_31 [some (.val a0), some (.val a1), none, none] m).back := by
  rw [callN_eq f_31 rfl rfl]
  rfl
theorem o_32 (n : Nat) (a0 a1 a2 a3 : D) (m : Mu) : callN G (n + 1) 32 [a0, a1, a2, a3] m = (evSs G (callN G n) b_32 [some (.val a0), some (.val a1), some (.val a2), some (.val a3), none, none, none, none, none, none, none, none, none, none, none, none] m).back := by
  rw [callN_eq f_32 rfl rfl]
  rfl
theorem o_33 (n : Nat) (a0 a1 : D) (m : Mu) : callN G (n + 1) 33 [a0, a1] m = (evSs G (callN G n) b_33 [some (.val a0), some (.val a1), none, none] m).back := by
  rw [callN_eq f_33 rfl rfl]
  rfl
theorem o_34 (n : Nat) (a0 a1 a2 a3 a4 : D) (m : Mu) : callN G (n + 1) 34 [a0, a1, a2, a3, a4] m = (evSs G (callN G n) b_34 [some (.val a0), some (.val a1), some (.val a2), some (.val a3), some (.val a4), none, none, none, none, none, none, none, none] m).back := by
  rw [callN_eq f_34 rfl rfl]
  rfl
theorem o_35 (n : Nat) (a0 a1 a2 a3 : D) (m : Mu) : callN G (n + 1) 35 [a0, a1, a2, a3] m = (evSs G (callN G n) b_35 [some (.val a0), some (.val a1), some (.val a2), some (.val a3), none] m).back := by
  rw [callN_eq f_35 rfl rfl]
  rfl
theorem o_36 (n : Nat) (a0 a1 a2 : D) (m : Mu) : callN G (n + 1) 36 [a0, a1, a2] m = (evSs G (callN G n) b_36 [some (.val a0), some (.val a1), some (.val a2), none] m).back := by
  rw [callN_eq f_36 rfl rfl]
  rfl
theorem o_37 (n : Nat) (a0 a1 a2 a3 a4 : D) (m : Mu) : callN G (n + 1) 37 [a0, a1, a2, a3, a4] m = (evSs G (callN G n) b_37 [some (.val a0), some (.val a1), some (.val a2), some (.val a3), some (.val a4), none, none, none, none, none, none] m).back := by
  rw [callN_eq f_37 rfl rfl]
  rfl
end K94
end

section
set_option Elab.async false
set_option linter.all false
set_option maxRecDepth 100000
set_option maxHeartbeats 4000000
namespace K94
open PySem PySem.Spec PyProof.Rows Dp
theorem c_13 (n : Nat) (i : Int) (m : Mu) : callN G (n + 1) 13 [.int i] m = .ok (.val (.bl true)) m := by rfl
theorem c_28 (n : Nat) (i : Int) (m : Mu) : callN G (n + 1) 28 [.int i] m = .ok (.val (.bl true)) m := by rfl
theorem c_12 (n : Nat) (i : Int) (m : Mu) (h : i = 2 ∨ i = 3 ∨ i = 5 ∨ i = 7) : callN G (n + 2) 12 [.int i] m = .ok (.val (.int i)) m := by
  rcases h with rfl | rfl | rfl | rfl <;> rfl
theorem c_3 (n : Nat) (many : Int) (hm : 0 < many) (ds : List Int) (m : Mu) (r : Mu) : callN G (n + 1) 3 [.ref 0, .int many] (.lst (ds.map .int) :: r) = .ok (.val (.int ((ds.getLast?.getD 0) % many))) (.lst (ds.dropLast.map .int) :: r) := by
  rw [o_3]
  rcases List.eq_nil_or_concat ds with rfl | ⟨ds, d, rfl⟩
  · simp -implicitDefEqProofs [b_3, evSs, evS, evB, evP, evPs, evE, seeD]
  · have h0 : ((ds.length : Int) + 1 = 0) = False := eq_false (by omega)
    simp -implicitDefEqProofs [b_3, evSs, evS, evB, evP, evPs, evE, seeD, b_mod hm, h0]
theorem fold_pow (b : Int) : ∀ (ds : List D) (t : Int), ds.foldl (fun t _ => t * b) t = t * b ^ ds.length
  | [], t => by simp
  | d :: ds, t => by
    rw [List.foldl_cons, fold_pow b ds, List.length_cons, Int.pow_succ, Int.mul_assoc, Int.mul_comm b]
theorem c_31 (n : Nat) (b : Int) (hb : 0 ≤ b ∧ b < 1000) (k : Nat) (hk : k ≤ 1000) (m : Mu) : callN G (n + 1) 31 [.int b, .int k] m = .ok (.val (.int (b ^ k))) m := by
  rw [o_31]
  have key := forL_run (fg := [3]) (F := fun d s1 m2 => evSs G (callN G n) l_31_0 (s1.set 3 (some (.val d))) m2) (m := m) (fun t : Int => [some (.val (.int b)), some (.val (.int k)), some (.val (.int t)), none]) (fun t _ => t * b) (fun t d => [some (.val (.int b)), some (.val (.int k)), some (.val (.int (t * b))), some (.val d)]) (fun _ _ => rfl) ((List.range k).map fun i => D.int (i : Nat)) 1
    (fun t d _ => by simp -implicitDefEqProofs [l_31_0, evSs, evS, evE, evP, bindT]; rw [b_mulS (by omega) (by omega)]; simp)
  have hr := r62_nat hk
  simp -implicitDefEqProofs [b_31, evSs, evS, evE, evP, evI, bindT, hr, key, fold_pow]
theorem c_6 (n : Nat) (b : Int) (hb : 0 ≤ b ∧ b < 1000) (k : Nat) (hk : k ≤ 1000) (m : Mu) : callN G (n + 1) 6 [.int b, .int k] m = .ok (.val (.int (b ^ k))) m := by
  rw [o_6]
  have key := forL_run (fg := [3]) (F := fun d s1 m2 => evSs G (callN G n) l_6_0 (s1.set 3 (some (.val d))) m2) (m := m) (fun t : Int => [some (.val (.int b)), some (.val (.int k)), some (.val (.int t)), none]) (fun t _ => t * b) (fun t d => [some (.val (.int b)), some (.val (.int k)), some (.val (.int (t * b))), some (.val d)]) (fun _ _ => rfl) ((List.range k).map fun i => D.int (i : Nat)) 1
    (fun t d _ => by simp -implicitDefEqProofs [l_6_0, evSs, evS, evE, evP, bindT]; rw [b_mulS (by omega) (by omega)]; simp)
  have hr := r62_nat hk
  simp -implicitDefEqProofs [b_6, evSs, evS, evE, evP, evI, bindT, hr, key, fold_pow]
/-- an inverse -/
def Iv (p n r : Int) : Prop := 0 ≤ r ∧ r < p ∧ (n * r) % p = 1
theorem c_21 (n : Nat) {p x : Int} (hp : p = 2 ∨ p = 3 ∨ p = 5 ∨ p = 7) (h0 : 0 < x) (h1 : x < p) (m : Mu) : ∃ r, callN G (n + 1) 21 [.int p, .int x, .int (p - 2)] m = .ok (.val (.int r)) m ∧ Iv p x r := by
  rcases hp with rfl | rfl | rfl | rfl
  · obtain rfl : x = 1 := by omega
    exact ⟨1, rfl, by unfold Iv; decide⟩
  · rcases (by omega : x = 1 ∨ x = 2) with rfl | rfl
    · exact ⟨1, rfl, by unfold Iv; decide⟩
    · exact ⟨2, rfl, by unfold Iv; decide⟩
  · rcases (by omega : x = 1 ∨ x = 2 ∨ x = 3 ∨ x = 4) with rfl | rfl | rfl | rfl
    · exact ⟨1, rfl, by unfold Iv; decide⟩
    · exact ⟨3, rfl, by unfold Iv; decide⟩
    · exact ⟨2, rfl, by unfold Iv; decide⟩
    · exact ⟨4, rfl, by unfold Iv; decide⟩
  · rcases (by omega : x = 1 ∨ x = 2 ∨ x = 3 ∨ x = 4 ∨ x = 5 ∨ x = 6) with rfl | rfl | rfl | rfl | rfl | rfl
    · exact ⟨1, rfl, by unfold Iv; decide⟩
    · exact ⟨4, rfl, by unfold Iv; decide⟩
    · exact ⟨5, rfl, by unfold Iv; decide⟩
    · exact ⟨2, rfl, by unfold Iv; decide⟩
    · exact ⟨3, rfl, by unfold Iv; decide⟩
    · exact ⟨6, rfl, by unfold Iv; decide⟩
/-- the first place that is not 0 -/
def fp : List Int → Option Nat
  | [] => none
  | x :: l => if x ≠ 0 then some 0 else (fp l).map (· + 1)
def fpI (l : List Int) : Int := match fp l with
  | some i => i
  | none => -1
end K94
end

section
set_option Elab.async false
set_option linter.all false
set_option maxRecDepth 100000
set_option maxHeartbeats 4000000
namespace K94
open PySem PySem.Spec PyProof.Rows Dp

/-- a loop's turn -/
noncomputable def bodyF (cf : Nat → List D → Mu → R SV) (t : T) (body : Ss) (d : D) (s1 : Sl) (m2 : Mu) : SR := match bindT s1 t d with | some s2 => evSs G cf body s2 m2 | none => .bad
theorem evS_for {cf : Nat → List D → Mu → R SV} {t : T} {it : I} {body : Ss} {fg : List Nat} {s : Sl} {m : Mu} : evS G cf (.for_ t it body fg) s m = (evI G cf it s m).st s fun ds m1 => forL fg (bodyF cf t body) ds s m1 := by
  rw [evS]
  rfl
/-- a comprehension's turn -/
noncomputable def lcF (cf : Nat → List D → Mu → R SV) (s0 : Sl) (t : T) (c : OB) (e : E) (d : D) (m2 : Mu) : R (Option D) := match bindT s0 t d with
  | some s2 => (evOB G cf c s2 m2).bind fun b m3 => if b = true then (evE G cf e s2 m3).bind fun x m4 => .ok (some x.fz) m4 else .ok none m3
  | none => .bad
theorem evE_lc {cf : Nat → List D → Mu → R SV} {t : T} {own : List (Str × Nat)} {it : I} {c : OB} {e : E} {s : Sl} {m : Mu} : evE G cf (.lc t own it c e) s m = (evI G cf it s m).bind fun ds m1 => (lcL (lcF cf (wipeS s (own.map (·.2))) t c e) ds [] m1).bind fun r m5 => .ok (.own (.lst r)) m5 := by
  rw [evE]
  rfl
theorem szl {n : Nat} (h : n ≤ 9000) : n ≤ sizeLine := Nat.le_trans h (by decide)
theorem lcL_mapf {α : Type} {F : D → Mu → R (Option D)} {m : Mu} (f g : α → D) : ∀ (xs : List α) (acc : List D), acc.length + xs.length ≤ 9000 → (∀ x ∈ xs, F (f x) m = .ok (some (g x)) m) → lcL F (xs.map f) acc m = .ok (acc ++ xs.map g) m
  | [], acc, _, _ => by simp [lcL]
  | d :: ds, acc, hl, h => by
    rw [List.map_cons]
    unfold lcL
    rw [h d (by simp)]
    simp only [R.bindN_ok]
    have hz : acc.length < sizeLine := szl (n := acc.length + 1) (by simp at hl; omega)
    rw [decide_eq_true hz]
    rw [guard_true, lcL_mapf f g ds (acc ++ [g d]) (by simp at hl ⊢; omega) fun e he => h e (by simp [he])]
    simp
theorem lcL_filterf {α : Type} {F : D → Mu → R (Option D)} {m : Mu} (q : α → Bool) (f g : α → D) : ∀ (xs : List α) (acc : List D), acc.length + xs.length ≤ 9000 → (∀ x ∈ xs, F (f x) m = .ok (if q x = true then some (g x) else none) m) → lcL F (xs.map f) acc m = .ok (acc ++ (xs.filter q).map g) m
  | [], acc, _, _ => by simp [lcL]
  | d :: ds, acc, hl, h => by
    rw [List.map_cons]
    unfold lcL
    rw [h d (by simp)]
    simp only [R.bindN_ok]
    by_cases hq : q d = true
    · rw [if_pos hq]
      dsimp only
      have hz : acc.length < sizeLine := szl (n := acc.length + 1) (by simp at hl; omega)
      rw [decide_eq_true hz]
      rw [guard_true, lcL_filterf q f g ds (acc ++ [g d]) (by simp at hl ⊢; omega) fun e he => h e (by simp [he]), List.filter_cons_of_pos hq]
      simp
    · rw [if_neg hq]
      dsimp only
      rw [lcL_filterf q f g ds acc (by simp at hl; omega) fun e he => h e (by simp [he]), List.filter_cons_of_neg hq]
theorem forL_runf {α β : Type} {fg : List Nat} {F : D → Sl → Mu → SR} {m : Mu} (f : α → D) (st : β → Sl) (step : β → α → β) (I : β → Prop) : ∀ (xs : List α) (b : β), I b → (∀ b x, x ∈ xs → I b → I (step b x) ∧ ∃ s1, F (f x) (st b) m = .nx s1 m ∧ wipeS s1 fg = st (step b x)) → forL fg F (xs.map f) (st b) m = .nx (st (xs.foldl step b)) m
  | [], b, _, _ => rfl
  | d :: ds, b, hb, h => by
    obtain ⟨h1, s1, h2, h3⟩ := h b d (by simp) hb
    have ih := forL_runf f st step I ds (step b d) h1 fun b' d' hd => h b' d' (by simp [hd])
    rw [List.map_cons]
    unfold forL
    rw [h2]
    dsimp only
    rw [h3]
    exact ih
theorem enumL : ∀ (j : Nat) (l : List Int) (fg : List Nat) (F : D → Sl → Mu → SR) (s : Sl) (m : Mu), (∀ i x, F (.tup [.int i, .int x]) s m = if x ≠ 0 then .rt (.val (.int i)) m else .nx (s.set 1 (some (.val (.int i))) |>.set 2 (some (.val (.int x)))) m) → (∀ a b : SV, wipeS (s.set 1 (some a) |>.set 2 (some b)) fg = s) →
    forL fg F (((List.range' j l.length).zip (l.map D.int)).map fun q => .tup [.int (q.1 : Nat), q.2]) s m = match fp l with
      | some i => .rt (.val (.int (j + i : Nat))) m
      | none => .nx s m
  | j, [], fg, F, s, m, _, _ => rfl
  | j, x :: l, fg, F, s, m, h, w => by
    have ih := enumL (j + 1) l fg F s m h w
    rw [List.length_cons, List.range'_succ, List.map_cons, List.zip_cons_cons, List.map_cons]
    unfold forL
    rw [h]
    by_cases hx : x = 0
    · subst hx
      have e : fp (0 :: l) = (fp l).map (· + 1) := rfl
      rw [e]
      simp only [ne_eq, not_true_eq_false, if_false, w]
      rw [ih]
      cases fp l with
      | none => rfl
      | some i =>
        show SR.rt (.val (.int (j + 1 + i : Nat))) m = SR.rt (.val (.int (j + (i + 1) : Nat))) m
        rw [Nat.add_right_comm, Nat.add_assoc]
    · have e : fp (x :: l) = some 0 := by unfold fp; rw [if_pos hx]
      rw [e, if_pos hx]
      rfl
theorem c_20 (n : Nat) (l : List Int) (m : Mu) : callN G (n + 1) 20 [pt l] m = .ok (.val (.int (fpI l))) m := by
  rw [o_20]
  have key := enumL 0 l [1, 2] (bodyF (callN G n) (.tp [1, 2]) l_20_0) [some (.val (pt l)), none, none] m
    (fun i x => by
      by_cases hx : x = 0 <;> simp -implicitDefEqProofs [↓evS_for, ↓evE_lc, evSs, evS, evE, evEs, evP, evPs, evI, evB, evBor, evBand, evO, evOB, evAnd, bindT, wipeS, bodyF, l_20_0, hx])
    (fun a b => rfl)
  rw [← List.range_eq_range'] at key
  have hl : (l.map D.int).length = l.length := List.length_map ..
  unfold fpI
  cases e : fp l with
  | none =>
    rw [e] at key
    simp -implicitDefEqProofs [↓evS_for, ↓evE_lc, evSs, evS, evE, evEs, evP, evPs, evI, evB, evBor, evBand, evO, evOB, evAnd, bindT, wipeS, b_20, key]
  | some i =>
    rw [e] at key
    simp -implicitDefEqProofs [↓evS_for, ↓evE_lc, evSs, evS, evE, evEs, evP, evPs, evI, evB, evBor, evBand, evO, evOB, evAnd, bindT, wipeS, b_20, key]
/-- the entry at a place -/
def ga (l : List Int) (i : Nat) : Int := l.getD i 0
def lessR (p many : Int) (led left : List Int) : List Int := (left.zip led).map fun q => (q.1 - many * q.2) % p
def lessL (p : Int) : List (List Int × Nat) → List Int → List Int
  | [], r => r
  | q :: rl, r => lessL p rl (if ga r q.2 ≠ 0 then lessR p (ga r q.2) q.1 r else r)
abbrev rwD (rl : List (List Int × Nat)) : D := .tup (rl.map fun q => pt q.1)
abbrev ldD (rl : List (List Int × Nat)) : D := .tup (rl.map fun q => D.int (q.2 : Nat))
theorem lessR_len {p many : Int} {led left : List Int} (h : led.length = left.length) : (lessR p many led left).length = left.length := by
  unfold lessR
  simp [h]
theorem ix_pt {l : List Int} {i : Nat} {m : Mu} (h : i < l.length) : opIx (pt l) (.int (i : Nat)) m = .ok (.val (.int (ga l i))) m := ix_tup (by omega) (by simp [h, ga])
def sm20 (x : Int) : Prop := -1000 ≤ x ∧ x ≤ 1000
theorem zipD (a b : List Int) : (((a.map D.int).zip (b.map D.int)).map fun q => D.tup [q.1, q.2]) = (a.zip b).map fun q => D.tup [.int q.1, .int q.2] := by
  rw [List.zip_map, List.map_map]
  rfl
theorem lessL_cons (p : Int) (q : List Int × Nat) (rl : List (List Int × Nat)) (r : List Int) : lessL p (q :: rl) r = lessL p rl (if ga r q.2 ≠ 0 then lessR p (ga r q.2) q.1 r else r) := rfl
theorem lessL_fold (p : Int) : ∀ (rl : List (List Int × Nat)) (r : List Int), rl.foldl (fun r q => if ga r q.2 ≠ 0 then lessR p (ga r q.2) q.1 r else r) r = lessL p rl r
  | [], r => rfl
  | q :: rl, r => lessL_fold p rl _
theorem c_19 (n : Nat) (p : Int) (hp : 0 < p) (w : Nat) (hw : w ≤ 100) (m : Mu) (rl : List (List Int × Nat)) (r : List Int) (hr : r.length = w) (h : ∀ q ∈ rl, q.1.length = w ∧ q.2 < w ∧ ∀ x ∈ q.1, sm20 x) : callN G (n + 1) 19 [.int p, rwD rl, ldD rl, pt r] m = .ok (.val (pt (lessL p rl r))) m := by
  rw [o_19]
  have key := forL_runf (m := m) (fg := [5, 6, 7]) (F := bodyF (callN G n) (.tp [5, 6]) l_19_0) (fun q : List Int × Nat => D.tup [pt q.1, .int (q.2 : Nat)])
    (fun r' => [some (.val (.int p)), some (.val (rwD rl)), some (.val (ldD rl)), some (.val (pt r)), some (.val (pt r')), none, none, none, none, none])
    (fun r q => if ga r q.2 ≠ 0 then lessR p (ga r q.2) q.1 r else r) (fun r' => r'.length = w) rl r hr (fun r' q hq hl => by
      obtain ⟨h1, h2, h3⟩ := h q hq
      refine ⟨by split <;> simp [lessR_len, h1, hl], ?_⟩
      have hi := ix_pt (m := m) (l := r') (i := q.2) (by omega)
      by_cases hz : ga r' q.2 = 0
      · rw [hz] at hi
        refine ⟨_, by simp -implicitDefEqProofs [↓evS_for, ↓evE_lc, evSs, evS, evE, evEs, evP, evPs, evI, evB, evBor, evBand, evO, evOB, evAnd, bindT, wipeS, bodyF, l_19_0, hi]; rfl, ?_⟩
        simp only [hz, ne_eq, not_true_eq_false, if_false]
        rfl
      · have lk := lcL_mapf (m := m) (F := lcF (callN G n) [some (.val (.int p)), some (.val (rwD rl)), some (.val (ldD rl)), some (.val (pt r)), some (.val (pt r')), some (.val (pt q.1)), some (.val (.int q.2)), some (.val (.int (ga r' q.2))), none, none] (.tp [8, 9]) .none (.bin .mod (.e (.bin .sub (.e (.var 8)) (.e (.bin .mul (.e (.var 7)) (.e (.var 9)))))) (.e (.var 0)))) (fun x : Int × Int => .tup [.int x.1, .int x.2]) (fun x => .int ((x.1 - (ga r' q.2) * x.2) % p)) (r'.zip q.1) [] (by simp [hl, h1]; omega) (fun x hx => by
          have h4 := h3 x.2 (List.of_mem_zip hx).2
          have h5 := b_mulS (i := ga r' q.2) (j := x.2) (m := m) (Int.le_trans (by decide) h4.1) (Int.le_trans h4.2 (by decide))
          simp -implicitDefEqProofs [↓evS_for, ↓evE_lc, evSs, evS, evE, evEs, evP, evPs, evI, evB, evBor, evBand, evO, evOB, evAnd, bindT, wipeS, lcF, h5, b_mod hp])
        refine ⟨_, by simp -implicitDefEqProofs [↓evS_for, ↓evE_lc, evSs, evS, evE, evEs, evP, evPs, evI, evB, evBor, evBand, evO, evOB, evAnd, bindT, wipeS, bodyF, l_19_0, hi, hz, zipD, lk]; rfl, ?_⟩
        simp only [ne_eq, hz, not_false_eq_true, if_true]
        simp [wipeS, lessR, pt, List.map_map])
  have e : (((rl.map fun q => pt q.1).zip (rl.map fun q => D.int (q.2 : Nat))).map fun q => D.tup [q.1, q.2]) = rl.map fun q => D.tup [pt q.1, .int (q.2 : Nat)] := by
    rw [List.zip_map', List.map_map]
    rfl
  rw [lessL_fold] at key
  simp -implicitDefEqProofs [↓evS_for, ↓evE_lc, evSs, evS, evE, evEs, evP, evPs, evI, evB, evBor, evBand, evO, evOB, evAnd, bindT, wipeS, b_19, e, key]
end K94
end

section
set_option Elab.async false
set_option linter.all false
set_option maxRecDepth 100000
set_option maxHeartbeats 4000000
namespace K94
open PySem PySem.Spec PyProof.Rows Dp
theorem sIx_nat (n d k : Nat) : HT.sIx n d (some (k : Int)) = min k n := by
  unfold HT.sIx
  simp
  omega
theorem cut_to (xs : List D) (k : Nat) : Dp.cutD xs none (some (k : Int)) = xs.take k := by
  unfold Dp.cutD
  rw [sIx_nat]
  show (xs.drop 0).take (min k xs.length - 0) = _
  rw [List.drop_zero, Nat.sub_zero]
  rcases Nat.le_total k xs.length with h | h
  · rw [Nat.min_eq_left h]
  · rw [Nat.min_eq_right h, List.take_length, List.take_of_length_le h]
theorem cut_from (xs : List D) (k : Nat) : Dp.cutD xs (some (k : Int)) none = xs.drop k := by
  unfold Dp.cutD
  rw [sIx_nat]
  show (xs.drop (min k xs.length)).take (xs.length - min k xs.length) = _
  rcases Nat.le_total k xs.length with h | h
  · rw [Nat.min_eq_left h, ← List.length_drop, List.take_length]
  · rw [Nat.min_eq_right h, List.drop_length, List.drop_eq_nil_of_le h]
    simp
/-- a row of numbers -/
def RowP (p : Int) (w : Nat) (r : List Int) : Prop := r.length = w ∧ ∀ x ∈ r, 0 ≤ x ∧ x < p
theorem forL_con {α : Type} {fg : List Nat} {F : D → Sl → Mu → SR} {m : Mu} (f : α → D) (s : Sl) : ∀ (xs : List α), (∀ x, x ∈ xs → ∃ s1, F (f x) s m = .nx s1 m ∧ wipeS s1 fg = s) → forL fg F (xs.map f) s m = .nx s m
  | [], _ => rfl
  | d :: ds, h => by
    obtain ⟨s1, h2, h3⟩ := h d (by simp)
    have ih := forL_con f s ds fun d' hd => h d' (by simp [hd])
    rw [List.map_cons]
    unfold forL
    rw [h2]
    dsimp only
    rw [h3]
    exact ih
theorem sub_lt : isTyA G.subs (.tup []) [] = some false := rfl
theorem isis_tup (ds : List D) : isTyA G.subs (.tup ds) [.bt "list", .bt "tuple"] = some true := rfl
theorem isis_lst (ds : List D) : isTyA G.subs (.lst ds) [.bt "list", .bt "tuple"] = some true := rfl
theorem isis_gl : isTyA G.subs (.gl "()") [.bt "list", .bt "tuple"] = some true := rfl
@[simp] theorem see_gl (m : Mu) (x : Str) : seeD m (.gl x) = .gl x := rfl
theorem isis_seq (ds : List D) : isTyA G.subs (.seq ds) [.bt "list", .bt "tuple"] = some true := rfl
theorem c_14 (n : Nat) (p : Int) (w : Nat) (l : List Int) (h : RowP p w l) (m : Mu) : callN G (n + 2) 14 [.int p, .int (w : Nat), pt l] m = .ok (.val (.bl true)) m := by
  rw [o_14]
  have key := forL_con (m := m) (fg := [3]) (F := bodyF (callN G (n + 1)) (.nm 3) l_14_0) D.int [some (.val (.int p)), some (.val (.int w)), some (.val (pt l)), none] l (fun x hx => by
    obtain ⟨h1, h2⟩ := h.2 x hx
    refine ⟨_, by simp -implicitDefEqProofs [↓evS_for, ↓evE_lc, evSs, evS, evE, evEs, evP, evPs, evI, evB, evBor, evBand, evO, evOB, evAnd, bindT, wipeS, bodyF, l_14_0, c_13, h1, h2]; rfl, rfl⟩)
  have hw := h.1
  simp -implicitDefEqProofs [↓evS_for, ↓evE_lc, evSs, evS, evE, evEs, evP, evPs, evI, evB, evBor, evBand, evO, evOB, evAnd, bindT, wipeS, b_14, isis_tup, key, hw]
theorem enum_map {α : Type} (f : α → D) (xs : List α) : (((List.range (xs.map f).length).zip (xs.map f)).map fun q => D.tup [.int (q.1 : Nat), q.2]) = ((List.range xs.length).zip xs).map fun q => D.tup [.int (q.1 : Nat), f q.2] := by
  rw [List.length_map, List.zip_map_right, List.map_map]
  rfl
theorem isis_bt {x : D} {ds : List D} (hx : x = .lst ds ∨ x = .tup ds ∨ x = .seq ds) : isTyA G.subs (seeD [] x) [.bt "list", .bt "tuple"] = some true := by
  rcases hx with rfl | rfl | rfl <;> rfl
/-- rows handed on: as a list or a tuple -/
def SqD (x : D) (ds : List D) : Prop := x = .lst ds ∨ x = .tup ds ∨ (x = .gl "()" ∧ ds = [])
theorem c_22 (n : Nat) (p : Int) (w : Nat) (ps : List (List Int)) (hl : ps.length ≤ 100) (h : ∀ l ∈ ps, RowP p w l) (m : Mu) (x : D) (hx : SqD x (ps.map pt)) : callN G (n + 3) 22 [.int p, .int (w : Nat), x] m = .ok (.own (.lst (ps.map pt))) m := by
  rw [o_22]
  have key := forL_runf (m := m) (fg := [3]) (F := bodyF (callN G (n + 2)) (.tp [3, 4]) l_22_0) (fun q : Nat × List Int => D.tup [.int (q.1 : Nat), pt q.2]) (fun b : Option SV => [some (.val (.int p)), some (.val (.int w)), some (.val x), none, b]) (fun _ q => some (.val (pt q.2))) (fun _ => True) ((List.range ps.length).zip ps) none trivial (fun b q hq _ => by
    have c := c_14 n p w q.2 (h q.2 (List.of_mem_zip hq).2) m
    refine ⟨trivial, _, by simp -implicitDefEqProofs [↓evS_for, ↓evE_lc, evSs, evS, evE, evEs, evP, evPs, evI, evB, evBor, evBand, evO, evOB, evAnd, bindT, wipeS, bodyF, l_22_0, c]; rfl, rfl⟩)
  have lk := lcL_mapf (m := m) (F := lcF (callN G (n + 2)) [some (.val (.int p)), some (.val (.int w)), some (.val x), none, none] (.nm 4) .none (.bif .tuple (.cons (.e (.var 4)) .nil))) pt pt ps [] (by simp; omega) (fun y hy => by simp -implicitDefEqProofs [↓evS_for, ↓evE_lc, evSs, evS, evE, evEs, evP, evPs, evI, evB, evBor, evBand, evO, evOB, evAnd, bindT, wipeS, lcF])
  have en := enum_map pt ps
  rw [List.length_map] at en
  rcases hx with rfl | rfl | ⟨rfl, e0⟩
  · simp -implicitDefEqProofs [↓evS_for, ↓evE_lc, evSs, evS, evE, evEs, evP, evPs, evI, evB, evBor, evBand, evO, evOB, evAnd, bindT, wipeS, b_22, isis_tup, isis_lst, en, key, lk]
  · simp -implicitDefEqProofs [↓evS_for, ↓evE_lc, evSs, evS, evE, evEs, evP, evPs, evI, evB, evBor, evBand, evO, evOB, evAnd, bindT, wipeS, b_22, isis_tup, isis_lst, en, key, lk]
  · obtain rfl : ps = [] := List.map_eq_nil_iff.mp e0
    clear lk key en h
    simp -implicitDefEqProofs [↓evS_for, ↓evE_lc, evSs, evS, evE, evEs, evP, evPs, evI, evB, evBor, evBand, evO, evOB, evAnd, bindT, wipeS, b_22, isis_gl, forL, lcL]
def scl (p s : Int) (r : List Int) : List Int := r.map fun a => (a * s) % p
/-- a led row is set in at its place -/
def insG (p : Int) (rl : List (List Int × Nat)) (led : List Int) (j : Nat) : List (List Int × Nat) :=
  let old := rl.map fun q => (lessL p [(led, j)] q.1, q.2)
  let k := (rl.filter fun q => decide (q.2 < j)).length
  old.take k ++ (led, j) :: old.drop k
def Gr (p : Int) (rl : List (List Int × Nat)) (r : List Int) (rl' : List (List Int × Nat)) : Prop := match fp (lessL p rl r) with
  | none => rl' = rl
  | some j => ∃ s, Iv p (ga (lessL p rl r) j) s ∧ rl' = insG p rl (scl p s (lessL p rl r)) j
theorem fp_some : ∀ {l : List Int} {j : Nat}, fp l = some j → j < l.length ∧ ga l j ≠ 0 ∧ ∀ i, i < j → ga l i = 0
  | x :: l, j, h => by
    unfold fp at h
    by_cases hx : x ≠ 0
    · rw [if_pos hx] at h
      cases h
      exact ⟨by simp, hx, fun i hi => absurd hi (Nat.not_lt_zero i)⟩
    · rw [if_neg hx] at h
      cases e : fp l with
      | none => rw [e] at h; cases h
      | some k =>
        rw [e] at h
        cases h
        obtain ⟨h1, h2, h3⟩ := fp_some e
        refine ⟨by simp; omega, by simpa [ga] using h2, fun i hi => ?_⟩
        cases i with
        | zero => simpa [ga] using hx
        | succ i => simpa [ga] using h3 i (Nat.lt_of_succ_lt_succ hi)
theorem fp_none : ∀ {l : List Int}, fp l = none → ∀ i, ga l i = 0
  | [], _, i => by simp [ga]
  | x :: l, h, i => by
    unfold fp at h
    by_cases hx : x ≠ 0
    · rw [if_pos hx] at h
      cases h
    · rw [if_neg hx] at h
      cases e : fp l with
      | some k => rw [e] at h; cases h
      | none =>
        cases i with
        | zero => simpa [ga] using hx
        | succ i => simpa [ga] using fp_none e i
theorem lessR_row {p many : Int} (hp : 0 < p) {w : Nat} {led r : List Int} (h1 : RowP p w led) (h2 : RowP p w r) : RowP p w (lessR p many led r) := by
  refine ⟨by rw [lessR_len (by rw [h1.1, h2.1]), h2.1], fun x hx => ?_⟩
  unfold lessR at hx
  obtain ⟨q, _, rfl⟩ := List.mem_map.mp hx
  exact ⟨Int.emod_nonneg _ (by omega), Int.emod_lt_of_pos _ hp⟩
/-- the rows of a space -/
def RowsP (p : Int) (w : Nat) (rl : List (List Int × Nat)) : Prop := ∀ q ∈ rl, RowP p w q.1 ∧ q.2 < w
theorem lessL_row {p : Int} (hp : 0 < p) {w : Nat} : ∀ {rl : List (List Int × Nat)} {r : List Int}, RowsP p w rl → RowP p w r → RowP p w (lessL p rl r)
  | [], r, _, h => h
  | q :: rl, r, h1, h2 => by
    rw [lessL_cons]
    refine lessL_row hp (fun q hq => h1 q (by simp [hq])) ?_
    split
    · exact lessR_row hp (h1 q (by simp)).1 h2
    · exact h2
theorem ga_mem {p : Int} {w : Nat} {r : List Int} (h : RowP p w r) {j : Nat} (hj : j < w) : 0 ≤ ga r j ∧ ga r j < p := by
  have : ga r j ∈ r := by
    have hj' : j < r.length := by rw [h.1]; exact hj
    simp [ga, hj']
  exact h.2 _ this
theorem scl_row {p s : Int} (hp : 0 < p) {w : Nat} {r : List Int} (h : RowP p w r) : RowP p w (scl p s r) := by
  refine ⟨by simp [scl, h.1], fun x hx => ?_⟩
  obtain ⟨q, _, rfl⟩ := List.mem_map.mp hx
  exact ⟨Int.emod_nonneg _ (by omega), Int.emod_lt_of_pos _ hp⟩
def Pr (p : Int) : Prop := p = 2 ∨ p = 3 ∨ p = 5 ∨ p = 7
theorem Pr.pos {p : Int} (h : Pr p) : 0 < p ∧ p ≤ 7 := by
  rcases h with rfl | rfl | rfl | rfl <;> decide
theorem RowP.sm {p : Int} (hp : Pr p) {w : Nat} {r : List Int} (h : RowP p w r) : ∀ x ∈ r, sm20 x := fun x hx => by
  have := h.2 x hx
  have := hp.pos
  exact ⟨by omega, by omega⟩
theorem tadd (a b : List D) (m : Mu) (h : a.length + b.length ≤ 1000) : opB .add (.tup a) (.tup b) m = .ok (.val (.tup (a ++ b))) m := by
  show guardR (decide (a.length + b.length ≤ sizeLine)) _ = _
  rw [decide_eq_true (szl (Nat.le_trans h (by decide)))]
  rfl
theorem ladd (a b : List D) (m : Mu) (h : a.length + b.length ≤ 1000) : opB .add (.lst a) (.lst b) m = .ok (.own (.lst (a ++ b))) m := by
  show guardR (decide (a.length + b.length ≤ sizeLine)) _ = _
  rw [decide_eq_true (szl (Nat.le_trans h (by decide)))]
  rfl
theorem c_18 (n : Nat) (p : Int) (hp : Pr p) (w : Nat) (hw : w ≤ 100) (m : Mu) (rl : List (List Int × Nat)) (hl : rl.length ≤ 100) (r : List Int) (hr : RowP p w r) (h : RowsP p w rl) : ∃ rl', Gr p rl r rl' ∧ callN G (n + 2) 18 [.int p, rwD rl, ldD rl, pt r] m = .ok (.val (.tup [rwD rl', ldD rl'])) m := by
  have hp0 := hp.pos.1
  have c19 := c_19 n p hp0 w hw m rl r hr.1 fun q hq => ⟨(h q hq).1.1, (h q hq).2, (h q hq).1.sm hp⟩
  have c20 := c_20 n (lessL p rl r) m
  have hL := lessL_row hp0 h hr
  rw [o_18]
  unfold Gr
  unfold fpI at c20
  cases e : fp (lessL p rl r) with
  | none =>
    rw [e] at c20
    exact ⟨rl, rfl, by simp -implicitDefEqProofs [↓evS_for, ↓evE_lc, evSs, evS, evE, evEs, evP, evPs, evI, evB, evBor, evBand, evO, evOB, evAnd, bindT, wipeS, b_18, c19, c20, sizeLine]⟩
  | some j =>
    rw [e] at c20
    obtain ⟨f1, f2, f3⟩ := fp_some e
    rw [hL.1] at f1
    have hg := ga_mem hL f1
    obtain ⟨s, c21, iv⟩ := c_21 n hp (x := ga (lessL p rl r) j) (by omega) hg.2 m
    refine ⟨_, ⟨s, iv, rfl⟩, ?_⟩
    have ix := ix_pt (m := m) (l := lessL p rl r) (i := j) (by rw [hL.1]; exact f1)
    have hS := scl_row (s := s) hp0 hL
    let led := scl p s (lessL p rl r)
    let L := lessL p rl r
    have l1 := lcL_mapf (m := m) (F := lcF (callN G (n + 1)) [some (.val (.int p)), some (.val (rwD rl)), some (.val (ldD rl)), some (.val (pt r)), some (.val (pt (lessL p rl r))), some (.val (.int j)), some (.val (.int s)), none, none, none, none, none, none, none] (.nm 12) .none (.bin .mod (.e (.bin .mul (.e (.var 12)) (.e (.var 6)))) (.e (.var 0)))) D.int (fun a => .int ((a * s) % p)) (lessL p rl r) [] (by simp [hL.1]; omega) (fun x hx => by
      have h5 := b_mulS (i := x) (j := s) (m := m) (by have := iv.1; omega) (by have := iv.2.1; have := hp.pos; omega)
      simp -implicitDefEqProofs [↓evS_for, ↓evE_lc, evSs, evS, evE, evEs, evP, evPs, evI, evB, evBor, evBand, evO, evOB, evAnd, bindT, wipeS, lcF, h5, b_mod hp0])
    have l2 := lcL_mapf (m := m) (F := lcF (callN G (n + 1)) [some (.val (.int p)), some (.val (rwD rl)), some (.val (ldD rl)), some (.val (pt r)), some (.val (pt (lessL p rl r))), some (.val (.int j)), some (.val (.int s)), some (.val (pt (scl p s (lessL p rl r)))), none, none, none, none, none, none] (.nm 11) .none (.call 19 (.cons (.var 0) (.cons (.tup (.cons (.var 7) .nil)) (.cons (.tup (.cons (.var 5) .nil)) (.cons (.var 11) .nil)))))) (fun q : List Int × Nat => pt q.1) (fun q => pt (lessL p [(scl p s (lessL p rl r), j)] q.1)) rl [] (by simp; omega) (fun x hx => by
      have h5 := K94.c_19 n p hp0 w hw m [(scl p s (lessL p rl r), j)] x.1 (h x hx).1.1 (fun q hq => by
        obtain rfl : q = _ := List.mem_singleton.mp hq
        exact ⟨hS.1, f1, hS.sm hp⟩)
      have z1 : (1 : Nat) ≤ sizeLine := szl (by decide)
      have h6 : callN G (n + 1) 19 [.int p, .tup [pt (scl p s (lessL p rl r))], .tup [.int j], pt x.1] m = .ok (.val (pt (lessL p [(scl p s (lessL p rl r), j)] x.1))) m := h5
      simp -implicitDefEqProofs [↓evS_for, ↓evE_lc, evSs, evS, evE, evEs, evP, evPs, evI, evB, evBor, evBand, evO, evOB, evAnd, bindT, wipeS, lcF, z1, h6])
    have l3 := lcL_filterf (m := m) (F := lcF (callN G (n + 1)) [some (.val (.int p)), some (.val (rwD rl)), some (.val (ldD rl)), some (.val (pt r)), some (.val (pt (lessL p rl r))), some (.val (.int j)), some (.val (.int s)), some (.val (pt (scl p s (lessL p rl r)))), some (.val (.lst (rl.map fun q => pt (lessL p [(scl p s (lessL p rl r), j)] q.1)))), none, none, none, none, none] (.nm 13) (.some (.cmp .lt (.e (.var 13)) (.e (.var 5)))) (.var 13)) (fun q : List Int × Nat => decide (q.2 < j)) (fun q => .int (q.2 : Nat)) (fun q => .int (q.2 : Nat)) rl [] (by simp; omega) (fun x hx => by
      by_cases hxj : x.2 < j <;> simp -implicitDefEqProofs [↓evS_for, ↓evE_lc, evSs, evS, evE, evEs, evP, evPs, evI, evB, evBor, evBand, evO, evOB, evAnd, bindT, wipeS, lcF, hxj])
    simp only [List.nil_append] at l1 l2 l3
    have e1 : ((lessL p rl r).map fun a => D.int (a * s % p)) = (scl p s (lessL p rl r)).map D.int := by simp [scl]
    rw [e1] at l1
    have hk : (rl.filter fun q => decide (q.2 < j)).length ≤ 100 := Nat.le_trans (List.length_filter_le _ _) hl
    have z2 : (2 : Nat) ≤ sizeLine := szl (by decide)
    have z1 : (1 : Nat) ≤ sizeLine := szl (by decide)
    have hj0 : ¬ ((j : Int) < 0) := by omega
    have ta := tadd ((rl.map fun q => pt (lessL p [(scl p s (lessL p rl r), j)] q.1)).take (rl.filter fun q => decide (q.2 < j)).length) [.tup ((scl p s (lessL p rl r)).map D.int)] m (by simp; omega)
    have tb := tadd ((rl.map fun q => pt (lessL p [(scl p s (lessL p rl r), j)] q.1)).take (rl.filter fun q => decide (q.2 < j)).length ++ [.tup ((scl p s (lessL p rl r)).map D.int)]) ((rl.map fun q => pt (lessL p [(scl p s (lessL p rl r), j)] q.1)).drop (rl.filter fun q => decide (q.2 < j)).length) m (by simp; omega)
    have tc := tadd ((rl.map fun q => D.int (q.2 : Nat)).take (rl.filter fun q => decide (q.2 < j)).length) [.int j] m (by simp; omega)
    have td := tadd ((rl.map fun q => D.int (q.2 : Nat)).take (rl.filter fun q => decide (q.2 < j)).length ++ [.int j]) ((rl.map fun q => D.int (q.2 : Nat)).drop (rl.filter fun q => decide (q.2 < j)).length) m (by simp; omega)
    simp -implicitDefEqProofs [↓evS_for, ↓evE_lc, evSs, evS, evE, evEs, evP, evPs, evI, evB, evBor, evBand, evO, evOB, evAnd, bindT, wipeS, b_18, hj0, c19, c20, ix, c21, l1, l2, l3, z1, z2, opSl, cut_to, cut_from, ta, tb, tc, td]
    unfold insG
    simp [List.map_take, List.map_drop, Function.comp_def]
end K94
end

section
set_option Elab.async false
set_option linter.all false
set_option maxRecDepth 100000
set_option maxHeartbeats 4000000
namespace K94
open PySem PySem.Spec PyProof.Rows Dp
theorem Gr_rows {p : Int} (hp : 0 < p) {w : Nat} {rl rl' : List (List Int × Nat)} {r : List Int} (h : RowsP p w rl) (hr : RowP p w r) (g : Gr p rl r rl') : RowsP p w rl' ∧ rl'.length ≤ rl.length + 1 := by
  unfold Gr at g
  have hL := lessL_row hp h hr
  cases e : fp (lessL p rl r) with
  | none =>
    rw [e] at g
    cases g
    exact ⟨h, by omega⟩
  | some j =>
    rw [e] at g
    obtain ⟨s, _, rfl⟩ := g
    have f1 := (fp_some e).1
    rw [hL.1] at f1
    have hS := scl_row (s := s) hp hL
    have old : ∀ q ∈ rl.map (fun q => (lessL p [(scl p s (lessL p rl r), j)] q.1, q.2)), RowP p w q.1 ∧ q.2 < w := fun q hq => by
      obtain ⟨q0, hq0, rfl⟩ := List.mem_map.mp hq
      exact ⟨lessL_row hp (fun q hq => by
        obtain rfl : q = _ := List.mem_singleton.mp hq
        exact ⟨hS, f1⟩) (h q0 hq0).1, (h q0 hq0).2⟩
    refine ⟨fun q hq => ?_, ?_⟩
    · unfold insG at hq
      rcases List.mem_append.mp hq with hq | hq
      · exact old q (List.mem_of_mem_take hq)
      · rcases List.mem_cons.mp hq with rfl | hq
        · exact ⟨hS, f1⟩
        · exact old q (List.mem_of_mem_drop hq)
    · unfold insG
      simp
      omega
/-- rows are taken in, one by one -/
def Rd (p : Int) : List (List Int) → List (List Int × Nat) → List (List Int × Nat) → Prop
  | [], rl, rl' => rl' = rl
  | r :: rs, rl, rl' => ∃ r1, Gr p rl r r1 ∧ Rd p rs r1 rl'
theorem l_17 (n : Nat) (p : Int) (hp : Pr p) (w : Nat) (hw : w ≤ 100) (m : Mu) (x : D) : ∀ (ps : List (List Int)) (rl : List (List Int × Nat)), (∀ r ∈ ps, RowP p w r) → RowsP p w rl → ps.length + rl.length ≤ 100 →
    ∃ rl', Rd p ps rl rl' ∧ RowsP p w rl' ∧ rl'.length ≤ ps.length + rl.length ∧ forL [3] (bodyF (callN G (n + 2)) (.nm 3) l_17_0) (ps.map pt) [some (.val (.int p)), some (.val x), some (.val (.tup [rwD rl, ldD rl])), none] m = .nx [some (.val (.int p)), some (.val x), some (.val (.tup [rwD rl', ldD rl'])), none] m
  | [], rl, _, h, _ => ⟨rl, rfl, h, by omega, rfl⟩
  | r :: ps, rl, h, h2, h3 => by
    obtain ⟨r1, g, e⟩ := c_18 n p hp w hw m rl (by simp at h3; omega) r (h r (by simp)) h2
    have q := Gr_rows hp.pos.1 h2 (h r (by simp)) g
    obtain ⟨rl', a, b, c, d⟩ := l_17 n p hp w hw m x ps r1 (fun r hr => h r (by simp [hr])) q.1 (by simp at h3; omega)
    refine ⟨rl', ⟨r1, g, a⟩, b, by simp; omega, ?_⟩
    rw [List.map_cons]
    unfold forL
    have i0 : opIx (.tup [rwD rl, ldD rl]) (.int 0) m = .ok (.val (rwD rl)) m := rfl
    have i1 : opIx (.tup [rwD rl, ldD rl]) (.int 1) m = .ok (.val (ldD rl)) m := rfl
    have t : bodyF (callN G (n + 2)) (.nm 3) l_17_0 (pt r) [some (.val (.int p)), some (.val x), some (.val (.tup [rwD rl, ldD rl])), none] m = .nx [some (.val (.int p)), some (.val x), some (.val (.tup [rwD r1, ldD r1])), some (.val (pt r))] m := by
      simp -implicitDefEqProofs [↓evS_for, ↓evE_lc, evSs, evS, evE, evEs, evP, evPs, evI, evB, evBor, evBand, evO, evOB, evAnd, bindT, wipeS, bodyF, l_17_0, i0, i1, e]
    rw [t]
    exact d
theorem c_17 (n : Nat) (p : Int) (hp : Pr p) (w : Nat) (hw : w ≤ 100) (m : Mu) (ps : List (List Int)) (h : ∀ r ∈ ps, RowP p w r) (hl : ps.length ≤ 100) (x : D) (hx : SqD x (ps.map pt)) :
    ∃ rl', Rd p ps [] rl' ∧ RowsP p w rl' ∧ rl'.length ≤ ps.length ∧ callN G (n + 3) 17 [.int p, x] m = .ok (.val (.tup [rwD rl', ldD rl'])) m := by
  obtain ⟨rl', a, b, c, d⟩ := l_17 n p hp w hw m x ps [] h (fun q hq => nomatch hq) (by simpa using hl)
  refine ⟨rl', a, b, by simpa using c, ?_⟩
  rw [o_17]
  have d' : forL [3] (bodyF (callN G (n + 2)) (.nm 3) l_17_0) (ps.map pt) [some (.val (.int p)), some (.val x), some (.val (.tup [.tup [], .tup []])), none] m = .nx [some (.val (.int p)), some (.val x), some (.val (.tup [rwD rl', ldD rl'])), none] m := d
  rcases hx with rfl | rfl | ⟨rfl, e0⟩
  · simp -implicitDefEqProofs [↓evS_for, ↓evE_lc, evSs, evS, evE, evEs, evP, evPs, evI, evB, evBor, evBand, evO, evOB, evAnd, bindT, wipeS, b_17, d', sizeLine]
  · simp -implicitDefEqProofs [↓evS_for, ↓evE_lc, evSs, evS, evE, evEs, evP, evPs, evI, evB, evBor, evBand, evO, evOB, evAnd, bindT, wipeS, b_17, d', sizeLine]
  · rw [e0] at d'
    simp -implicitDefEqProofs [↓evS_for, ↓evE_lc, evSs, evS, evE, evEs, evP, evPs, evI, evB, evBor, evBand, evO, evOB, evAnd, bindT, wipeS, b_17, d', sizeLine]
/-! ### a space -/
abbrev SpC (p : Int) (w : Nat) (rl : List (List Int × Nat)) : Cell := .ins "Space" ["prime", "width", "rows", "_leads"] [.int p, .int (w : Nat), rwD rl, ldD rl]
abbrev SpD (p : Int) (w : Nat) (rl : List (List Int × Nat)) : D := .ins "Space" ["prime", "width", "rows", "_leads"] [.int p, .int (w : Nat), rwD rl, ldD rl]
theorem catGet (m : Mu) (c : Cell) : (m ++ [c])[m.length]? = some c := by simp
theorem catSet (m : Mu) (c c' : Cell) : (m ++ [c]).set m.length c' = m ++ [c'] := by simp
theorem fl1 (d : D) : opFld G.flds "prime" d (.ins "Space" [] []) = some (.ins "Space" ["prime"] [d]) := rfl
theorem fl2 (a d : D) : opFld G.flds "width" d (.ins "Space" ["prime"] [a]) = some (.ins "Space" ["prime", "width"] [a, d]) := rfl
theorem fl3 (a b d : D) : opFld G.flds "rows" d (.ins "Space" ["prime", "width"] [a, b]) = some (.ins "Space" ["prime", "width", "rows"] [a, b, d]) := rfl
theorem fl4 (a b c d : D) : opFld G.flds "_leads" d (.ins "Space" ["prime", "width", "rows"] [a, b, c]) = some (.ins "Space" ["prime", "width", "rows", "_leads"] [a, b, c, d]) := rfl
theorem fl5 (a b c e d : D) : opFld G.flds "rows" d (.ins "Space" ["prime", "width", "rows", "_leads"] [a, b, c, e]) = some (.ins "Space" ["prime", "width", "rows", "_leads"] [a, b, d, e]) := rfl
theorem fl6 (a b c e d : D) : opFld G.flds "_leads" d (.ins "Space" ["prime", "width", "rows", "_leads"] [a, b, c, e]) = some (.ins "Space" ["prime", "width", "rows", "_leads"] [a, b, c, d]) := rfl
theorem c_13n (n w : Nat) (m : Mu) : callN G (n + 1) 13 [.int (w : Nat)] m = .ok (.val (.bl true)) m := c_13 n w m
theorem c_12p (n : Nat) (p : Int) (hp : Pr p) (m : Mu) : callN G (n + 2) 12 [.int p] m = .ok (.val (.int p)) m := c_12 n p m hp
theorem c_16 (n : Nat) (p : Int) (hp : Pr p) (w : Nat) (hw : w ≤ 100) (m : Mu) (ps : List (List Int)) (h : ∀ r ∈ ps, RowP p w r) (hl : ps.length ≤ 100) (x : D) (hx : SqD x (ps.map pt)) :
    ∃ rl', Rd p ps [] rl' ∧ RowsP p w rl' ∧ rl'.length ≤ ps.length ∧ callN G (n + 4) 16 [.ref m.length, .int p, .int (w : Nat), x] (m ++ [.ins "Space" [] []]) = .ok (.val .non) (m ++ [SpC p w rl']) := by
  have c22 := c_22 n p w ps hl h (m ++ [.ins "Space" ["prime", "width"] [.int p, .int (w : Nat)]]) x hx
  obtain ⟨rl', a, b, c, c17⟩ := c_17 n p hp w hw (m ++ [.ins "Space" ["prime", "width"] [.int p, .int (w : Nat)]]) ps h hl (.lst (ps.map pt)) (.inl rfl)
  refine ⟨rl', a, b, c, ?_⟩
  rw [o_16]
  have c12 := c_12p (n + 1) p hp (m ++ [.ins "Space" [] []])
  have i0 : ∀ m, opIx (.tup [rwD rl', ldD rl']) (.int 0) m = .ok (.val (rwD rl')) m := fun _ => rfl
  have i1 : ∀ m, opIx (.tup [rwD rl', ldD rl']) (.int 1) m = .ok (.val (ldD rl')) m := fun _ => rfl
  have hw0 : ¬ ((w : Int) < 0) := by omega
  simp -implicitDefEqProofs [↓evS_for, ↓evE_lc, evSs, evS, evE, evEs, evP, evPs, evI, evB, evBor, evBand, evO, evOB, evAnd, bindT, wipeS, b_16, c12, chg, catGet, catSet, fl1, fl2, fl3, fl4, c_13n, c22, c17, i0, i1, hw0]
end K94
end

section
set_option Elab.async false
set_option linter.all false
set_option maxRecDepth 100000
set_option maxHeartbeats 4000000
namespace K94
open PySem PySem.Spec PyProof.Rows Dp
theorem lo_ints (k : Nat) : ∀ l : List Int, D.los k (l.map D.int) = true
  | [] => rfl
  | i :: l => by
    show (true && D.los k (l.map D.int)) = true
    rw [lo_ints k l]
    rfl
theorem lo_rows (k : Nat) : ∀ rl : List (List Int × Nat), D.los k (rl.map fun q => pt q.1) = true
  | [] => rfl
  | q :: l => by
    show (D.los k (q.1.map D.int) && D.los k (l.map fun q => pt q.1)) = true
    rw [lo_rows k l, lo_ints]
    rfl
theorem lo_leads (k : Nat) : ∀ rl : List (List Int × Nat), D.los k (rl.map fun q => D.int (q.2 : Nat)) = true
  | [] => rfl
  | q :: l => by
    show (true && D.los k (l.map fun q => D.int (q.2 : Nat))) = true
    rw [lo_leads k l]
    rfl
theorem lo_sp (k : Nat) (p : Int) (w : Nat) (rl : List (List Int × Nat)) : D.lo k (SpD p w rl) = true := by
  show (true && (true && (D.los k (rl.map fun q => pt q.1) && (D.los k (rl.map fun q => D.int (q.2 : Nat)) && true)))) = true
  rw [lo_rows, lo_leads]
  rfl
theorem new_sp (m : Mu) (p : Int) (w : Nat) (rl : List (List Int × Nat)) : newR m (.val .non) (m ++ [SpC p w rl]) = .ok (.own (SpC p w rl)) m := by
  have h1 : (m ++ [SpC p w rl]).getLast? = some (SpC p w rl) := by simp
  have h2 : (m ++ [SpC p w rl] = m ++ [SpC p w rl] ∧ D.lo m.length (SpC p w rl).fz = true) := ⟨rfl, lo_sp _ p w rl⟩
  unfold newR
  dsimp only
  rw [h1]
  dsimp only
  rw [if_pos h2]
def spF : List Str := ["prime", "width", "rows", "_leads"]
theorem fl0 : G.flds.lookup ("Space" : Str) = some spF := rfl
theorem in1 : decide (("prime" : Str) ∈ spF) = true := rfl
theorem in2 : decide (("width" : Str) ∈ spF) = true := rfl
theorem in3 : decide (("rows" : Str) ∈ spF) = true := rfl
theorem in4 : decide (("_leads" : Str) ∈ spF) = true := rfl

theorem g1 (a b c d : D) : getFD "prime" ["prime", "width", "rows", "_leads"] [a, b, c, d] = some a := rfl
theorem g2 (a b c d : D) : getFD "width" ["prime", "width", "rows", "_leads"] [a, b, c, d] = some b := rfl
theorem g3 (a b c d : D) : getFD "rows" ["prime", "width", "rows", "_leads"] [a, b, c, d] = some c := rfl
theorem g4 (a b c d : D) : getFD "_leads" ["prime", "width", "rows", "_leads"] [a, b, c, d] = some d := rfl
theorem c_26 (n : Nat) (p : Int) (w : Nat) (rl : List (List Int × Nat)) (m : Mu) : callN G (n + 1) 26 [SpD p w rl] m = .ok (.val (.int rl.length)) m := by
  rw [o_26]
  simp -implicitDefEqProofs [↓evS_for, ↓evE_lc, evSs, evS, evE, evEs, evP, evPs, evI, evB, evBor, evBand, evO, evOB, evAnd, bindT, wipeS, b_26, fl0, g3, in3]
theorem c_24 (n : Nat) (p : Int) (hp : Pr p) (w : Nat) (hw : w ≤ 100) (rl : List (List Int × Nat)) (h : RowsP p w rl) (r : List Int) (hr : RowP p w r) (m : Mu) : callN G (n + 3) 24 [SpD p w rl, pt r] m = .ok (.val (.bl (fp (lessL p rl r)).isNone)) m := by
  have c14 := c_14 n p w r hr m
  have c19 := c_19 (n + 1) p hp.pos.1 w hw m rl r hr.1 fun q hq => ⟨(h q hq).1.1, (h q hq).2, (h q hq).1.sm hp⟩
  have c20 := c_20 (n + 1) (lessL p rl r) m
  rw [o_24]
  unfold fpI at c20
  cases e : fp (lessL p rl r) with
  | none =>
    rw [e] at c20
    simp -implicitDefEqProofs [↓evS_for, ↓evE_lc, evSs, evS, evE, evEs, evP, evPs, evI, evB, evBor, evBand, evO, evOB, evAnd, bindT, wipeS, b_24, fl0, in1, in2, in3, in4, g1, g2, g3, g4, in1, in2, in3, in4, c14, c19, c20]
  | some j =>
    rw [e] at c20
    have hj : ¬ ((j : Int) < 0) := by omega
    simp -implicitDefEqProofs [↓evS_for, ↓evE_lc, evSs, evS, evE, evEs, evP, evPs, evI, evB, evBor, evBand, evO, evOB, evAnd, bindT, wipeS, b_24, fl0, in1, in2, in3, in4, g1, g2, g3, g4, in1, in2, in3, in4, c14, c19, c20, hj]
theorem c_25 (n : Nat) (p : Int) (hp : Pr p) (w : Nat) (hw : w ≤ 100) (rl : List (List Int × Nat)) (hl : rl.length ≤ 50) (h : RowsP p w rl) (r : List Int) (hr : RowP p w r) (m : Mu) : ∃ rl', Gr p rl r rl' ∧ callN G (n + 5) 25 [SpD p w rl, pt r] m = .ok (.own (SpC p w rl')) m := by
  have c14 := c_14 (n + 2) p w r hr m
  obtain ⟨rl', g, c18⟩ := c_18 (n + 2) p hp w hw m rl (by omega) r hr h
  have q := Gr_rows hp.pos.1 h hr g
  obtain ⟨r0, a, b, c, c16⟩ := c_16 n p hp w hw m [] (fun r hr => nomatch hr) (by simp) (.gl "()") (.inr (.inr ⟨rfl, rfl⟩))
  refine ⟨rl', g, ?_⟩
  have c16' : callN G (n + 4) 16 [.ref m.length, .int p, .int (w : Nat)] (m ++ [.ins "Space" [] []]) = .ok (.val .non) (m ++ [SpC p w r0]) := by
    rw [← c16, show n + 4 = n + 3 + 1 from rfl, o_16, o_16']
  have i0 : ∀ m, opIx (.tup [rwD rl', ldD rl']) (.int 0) m = .ok (.val (rwD rl')) m := fun _ => rfl
  have i1 : ∀ m, opIx (.tup [rwD rl', ldD rl']) (.int 1) m = .ok (.val (ldD rl')) m := fun _ => rfl
  have nw := new_sp m p w r0
  rw [o_25]
  simp -implicitDefEqProofs [↓evS_for, ↓evE_lc, evSs, evS, evE, evEs, evP, evPs, evI, evB, evBor, evBand, evO, evOB, evAnd, bindT, wipeS, b_25, fl0, in1, in2, in3, in4, g1, g2, g3, g4, in1, in2, in3, in4, c14, c18, c16', nw, chg, fl5, fl6, i0, i1]
end K94
end

section
set_option Elab.async false
set_option linter.all false
set_option maxRecDepth 100000
set_option maxHeartbeats 4000000
namespace K94
open PySem PySem.Spec PyProof.Rows Dp
abbrev RL := List (List Int × Nat)
abbrev stD (p : Int) (w : Nat) (q : RL × Int) : D := .tup [SpD p w q.1, .int q.2]
/-- one row cuts every state in two -/
def St1 (p : Int) (r : List Int) : List (RL × Int) → List (RL × Int) → Prop
  | [], out => out = []
  | q :: rest, out => if fp (lessL p q.1 r) = none then St1 p r rest out else ∃ rl' o, Gr p q.1 r rl' ∧ St1 p r rest o ∧ out = q :: (rl', -q.2) :: o
def StP (p : Int) (w B : Nat) (sts : List (RL × Int)) : Prop := ∀ q ∈ sts, RowsP p w q.1 ∧ q.1.length ≤ B
theorem lk24 : List.lookup ("Space" : Str) [(("Space" : Str), 24)] = some 24 := rfl
theorem lk25 : List.lookup ("Space" : Str) [(("Space" : Str), 25)] = some 25 := rfl
theorem lk26 : List.lookup ("Space" : Str) [(("Space" : Str), 26)] = some 26 := rfl
theorem ne1 : (("with_row" : Str) = ("prime" : Str)) = False := eq_false (by decide)
theorem ne2 : (("with_row" : Str) = ("width" : Str)) = False := eq_false (by decide)
theorem ne3 : (("with_row" : Str) = ("rows" : Str)) = False := eq_false (by decide)
theorem ne4 : (("with_row" : Str) = ("_leads" : Str)) = False := eq_false (by decide)

theorem l_23a (n : Nat) (p : Int) (hp : Pr p) (w : Nat) (hw : w ≤ 100) (B : Nat) (hB : B ≤ 50) (r : List Int) (hr : RowP p w r) (m : Mu) (x0 x1 x2 : SV) : ∀ (sts : List (RL × Int)) (acc : List (RL × Int)) (a b : Option SV), StP p w B sts → acc.length + 2 * sts.length ≤ 5000 →
    ∃ out a' b', St1 p r sts out ∧ StP p w (B + 1) out ∧ out.length ≤ 2 * sts.length ∧ forL [] (bodyF (callN G (n + 5)) (.tp [6, 7]) l_23_0) (sts.map (stD p w)) [some x0, some x1, some x2, some (.val (pt r)), none, some (.own (.lst (acc.map (stD p w)))), a, b, none] m = .nx [some x0, some x1, some x2, some (.val (pt r)), none, some (.own (.lst ((acc ++ out).map (stD p w)))), a', b', none] m
  | [], acc, a, b, _, _ => ⟨[], a, b, rfl, (fun q hq => nomatch hq), by simp, by simp [forL]⟩
  | q :: sts, acc, a, b, h, hl => by
    have hq := h q (by simp)
    have c24 := c_24 (n + 2) p hp w hw q.1 hq.1 r hr m
    have z0 : acc.length < sizeLine := szl (n := acc.length + 1) (by simp at hl; omega)
    have z1 : acc.length + 1 < sizeLine := szl (n := acc.length + 2) (by simp at hl; omega)
    have z2 : (2 : Nat) ≤ sizeLine := szl (by decide)
    rw [List.map_cons]
    unfold forL St1
    cases e : fp (lessL p q.1 r) with
    | none =>
      rw [e] at c24
      obtain ⟨out, a', b', h1, h2, h3, h4⟩ := l_23a n p hp w hw B hB r hr m x0 x1 x2 sts acc (some (.val (SpD p w q.1))) (some (.val (.int q.2))) (fun q hq => h q (by simp [hq])) (by simp at hl; omega)
      refine ⟨out, a', b', by rw [if_pos rfl]; exact h1, h2, by simp; omega, ?_⟩
      have t : bodyF (callN G (n + 5)) (.tp [6, 7]) l_23_0 (stD p w q) [some x0, some x1, some x2, some (.val (pt r)), none, some (.own (.lst (acc.map (stD p w)))), a, b, none] m = .nx [some x0, some x1, some x2, some (.val (pt r)), none, some (.own (.lst (acc.map (stD p w)))), some (.val (SpD p w q.1)), some (.val (.int q.2)), none] m := by
        simp -implicitDefEqProofs [↓evS_for, ↓evE_lc, evSs, evS, evE, evEs, evP, evPs, evI, evB, evBor, evBand, evO, evOB, evAnd, bindT, wipeS, bodyF, l_23_0, lk24, c24]
      rw [t]
      exact h4
    | some j =>
      rw [e] at c24
      obtain ⟨rl', g, c25⟩ := c_25 n p hp w hw q.1 (by omega) hq.1 r hr m
      have gq := Gr_rows hp.pos.1 hq.1 hr g
      obtain ⟨out, a', b', h1, h2, h3, h4⟩ := l_23a n p hp w hw B hB r hr m x0 x1 x2 sts (acc ++ [q, (rl', -q.2)]) (some (.val (SpD p w q.1))) (some (.val (.int q.2))) (fun q hq => h q (by simp [hq])) (by simp at hl ⊢; omega)
      refine ⟨q :: (rl', -q.2) :: out, a', b', by rw [if_neg (by simp)]; exact ⟨rl', out, g, h1, rfl⟩, fun s hs => ?_, by simp; omega, ?_⟩
      · rcases List.mem_cons.mp hs with rfl | hs
        · exact ⟨hq.1, by omega⟩
        · rcases List.mem_cons.mp hs with rfl | hs
          · exact ⟨gq.1, by have := gq.2; have := hq.2; simp only; omega⟩
          · exact h2 s hs
      · have t : bodyF (callN G (n + 5)) (.tp [6, 7]) l_23_0 (stD p w q) [some x0, some x1, some x2, some (.val (pt r)), none, some (.own (.lst (acc.map (stD p w)))), a, b, none] m = .nx [some x0, some x1, some x2, some (.val (pt r)), none, some (.own (.lst ((acc ++ [q, (rl', -q.2)]).map (stD p w)))), some (.val (SpD p w q.1)), some (.val (.int q.2)), none] m := by
          simp -implicitDefEqProofs [↓evS_for, ↓evE_lc, evSs, evS, evE, evEs, evP, evPs, evI, evB, evBor, evBand, evO, evOB, evAnd, bindT, wipeS, bodyF, l_23_0, lk24, c24, isL, chgO, opM, z0, z1, z2, lk25, ne1, ne2, ne3, ne4, c25]
        rw [t]
        have ea : acc ++ q :: (rl', -q.2) :: out = (acc ++ [q, (rl', -q.2)]) ++ out := by simp
        rw [ea]
        exact h4
end K94
end

section
set_option Elab.async false
set_option linter.all false
set_option maxRecDepth 100000
set_option maxHeartbeats 4000000
namespace K94
open PySem PySem.Spec PyProof.Rows Dp
def Stn (p : Int) : List (List Int) → List (RL × Int) → List (RL × Int) → Prop
  | [], sts, out => out = sts
  | r :: rs, sts, out => ∃ o, St1 p r sts o ∧ Stn p rs o out
theorem l_23b (n : Nat) (p : Int) (hp : Pr p) (w : Nat) (hw : w ≤ 100) (m : Mu) (x0 x1 : SV) : ∀ (ps : List (List Int)) (sts : List (RL × Int)) (B : Nat) (a b : Option SV), (∀ r ∈ ps, RowP p w r) → StP p w B sts → B + ps.length ≤ 50 → sts.length * 2 ^ ps.length ≤ 1100 →
    ∃ out a' b', Stn p ps sts out ∧ StP p w (B + ps.length) out ∧ out.length ≤ 1100 ∧ forL [3, 5] (bodyF (callN G (n + 5)) (.nm 3) l_23_1) (ps.map pt) [some x0, some x1, some (.val (.lst (sts.map (stD p w)))), none, none, none, a, b, none] m = .nx [some x0, some x1, some (.val (.lst (out.map (stD p w)))), none, none, none, a', b', none] m
  | [], sts, B, a, b, _, h, _, hl => ⟨sts, a, b, rfl, h, by simpa using hl, rfl⟩
  | r :: ps, sts, B, a, b, h, h2, hB, hl => by
    have hk : sts.length ≤ 550 := by
      have h1 : 1 ≤ 2 ^ ps.length := Nat.one_le_two_pow
      have h3 : sts.length * 2 ^ (r :: ps).length = 2 * (sts.length * 2 ^ ps.length) := by rw [List.length_cons, Nat.pow_succ, Nat.mul_comm (2 ^ ps.length), Nat.mul_left_comm]
      have h4 := Nat.mul_le_mul_left sts.length h1
      omega
    obtain ⟨o, a1, b1, q1, q2, q3, q4⟩ := l_23a n p hp w hw B (by simp at hB; omega) r (h r (by simp)) m x0 x1 (.val (.lst (sts.map (stD p w)))) sts [] a b h2 (by simp; omega)
    have hl2 : o.length * 2 ^ ps.length ≤ 1100 := by
      have h3 : sts.length * 2 ^ (r :: ps).length = 2 * sts.length * 2 ^ ps.length := by rw [List.length_cons, Nat.pow_succ, Nat.mul_comm (2 ^ ps.length), ← Nat.mul_assoc, Nat.mul_comm sts.length]
      have h4 := Nat.mul_le_mul_right (2 ^ ps.length) q3
      omega
    obtain ⟨out, a2, b2, r1, r2, r3, r4⟩ := l_23b n p hp w hw m x0 x1 ps o (B + 1) a1 b1 (fun r hr => h r (by simp [hr])) q2 (by simp at hB; omega) hl2
    refine ⟨out, a2, b2, ⟨o, q1, r1⟩, by have e : B + (r :: ps).length = B + 1 + ps.length := by simp; omega
                                         rw [e]; exact r2, r3, ?_⟩
    rw [List.map_cons]
    unfold forL
    have t : bodyF (callN G (n + 5)) (.nm 3) l_23_1 (pt r) [some x0, some x1, some (.val (.lst (sts.map (stD p w)))), none, none, none, a, b, none] m = .nx [some x0, some x1, some (.val (.lst (o.map (stD p w)))), some (.val (pt r)), none, some (.own (.lst (o.map (stD p w)))), a1, b1, none] m := by
      simp only [List.nil_append, List.map_nil] at q4
      simp -implicitDefEqProofs [↓evS_for, ↓evE_lc, evSs, evS, evE, evEs, evP, evPs, evI, evB, evBor, evBand, evO, evOB, evAnd, bindT, wipeS, bodyF, l_23_1, q4]
    rw [t]
    exact r4
/-! ### the dict -/
def adK (e v : Int) (f : List (Int × Int)) : List (Int × Int) := if (f.any fun q => decide (q.1 = e)) = true then f.map (fun q => if q.1 = e then (q.1, v) else q) else f ++ [(e, v)]
def co (f : List (Int × Int)) (e : Int) : Int := ((f.find? fun q => decide (q.1 = e)).map (·.2)).getD 0
abbrev dkC (f : List (Int × Int)) : Cell := .dk (f.map fun q => .inl q.1) (f.map fun q => D.int q.2)
theorem inl_eq (a b : Int) : decide ((Sum.inl a : L2.Key) = .inl b) = decide (a = b) := by
  rw [Bool.eq_iff_iff, decide_eq_true_eq, decide_eq_true_eq]
  exact ⟨fun h => by cases h; rfl, fun h => by rw [h]⟩
theorem any_dk (e : Int) (f : List (Int × Int)) : ((f.map fun q => (Sum.inl q.1 : L2.Key)).any fun g => decide (g = .inl e)) = f.any fun q => decide (q.1 = e) := by
  rw [List.any_map]
  congr 1
  funext q
  exact inl_eq q.1 e
theorem put_dk (e v : Int) (f : List (Int × Int)) : putKN (.inl e : L2.Key) (f.map fun q => .inl q.1) = (adK e v f).map fun q => .inl q.1 := by
  unfold putKN adK
  rw [any_dk]
  by_cases h : (f.any fun q => decide (q.1 = e)) = true
  · rw [if_pos h, if_pos h, List.map_map]
    congr 1
    funext q
    show _ = Sum.inl (if q.1 = e then (q.1, v) else q).1
    split <;> rfl
  · rw [if_neg h, if_neg h]
    simp
theorem put_dd (e v : Int) (f : List (Int × Int)) : putKD (.inl e : L2.Key) (.int v) (f.map fun q => .inl q.1) (f.map fun q => D.int q.2) = (adK e v f).map fun q => D.int q.2 := by
  unfold putKD adK
  rw [any_dk]
  by_cases h : (f.any fun q => decide (q.1 = e)) = true
  · rw [if_pos h, if_pos h, List.map_map, List.zip_map', List.map_map]
    congr 1
    funext q
    show (if (Sum.inl q.1 : L2.Key) = .inl e then D.int v else D.int q.2) = D.int (if q.1 = e then (q.1, v) else q).2
    by_cases hq : q.1 = e
    · rw [if_pos hq, if_pos (by rw [hq])]
    · rw [if_neg hq, if_neg fun z => hq (by cases z; rfl)]
  · rw [if_neg h, if_neg h]
    simp
theorem val_dk (e : Int) (f : List (Int × Int)) : valD (f.map fun q => (.inl q.1 : L2.Key)) (f.map fun q => D.int q.2) (.inl e) = (f.find? fun q => decide (q.1 = e)).map fun q => D.int q.2 := by
  unfold valD
  rw [List.zip_map', List.find?_map, Option.map_map]
  congr 1
  congr 1
  funext q
  exact inl_eq q.1 e
theorem dget_dk (e : Int) (f : List (Int × Int)) : (valD (f.map fun q => (.inl q.1 : L2.Key)) (f.map fun q => D.int q.2) (.inl e)).getD (.int 0) = .int (co f e) := by
  rw [val_dk]
  unfold co
  cases f.find? fun q => decide (q.1 = e) <;> rfl
theorem co_ad (e v e' : Int) (f : List (Int × Int)) : co (adK e v f) e' = if e' = e then v else co f e' := by
  unfold adK
  by_cases h : (f.any fun q => decide (q.1 = e)) = true
  · rw [if_pos h]
    induction f with
    | nil => cases h
    | cons q f ih =>
      unfold co at ih ⊢
      rw [List.map_cons, List.find?_cons, List.find?_cons]
      by_cases hq : q.1 = e
      · rw [if_pos hq]
        by_cases he : e' = e
        · subst he
          simp [hq]
        · have : ¬ q.1 = e' := fun z => he (z.symm.trans hq)
          simp only [this, decide_false, he, if_false]
          by_cases ha : (f.any fun q => decide (q.1 = e)) = true
          · rw [ih ha, if_neg he]
          · have hm : (f.map fun q => if q.1 = e then (q.1, v) else q) = f := by
              conv => rhs; rw [← List.map_id f]
              refine List.map_congr_left fun a haf => ?_
              rw [if_neg fun z => ha (List.any_eq_true.mpr ⟨a, haf, by simp [z]⟩)]
              rfl
            rw [hm]
      · rw [if_neg hq]
        have ha : (f.any fun q => decide (q.1 = e)) = true := by simpa [hq] using h
        by_cases he : q.1 = e'
        · have : ¬ e' = e := fun z => hq (he.trans z)
          simp [he, this]
        · simp only [he, decide_false]
          exact ih ha
  · rw [if_neg h]
    have hn : (f.find? fun q => decide (q.1 = e)) = none := by
      rw [List.find?_eq_none]
      intro a ha hz
      exact h (List.any_eq_true.mpr ⟨a, ha, hz⟩)
    unfold co
    rw [List.find?_append]
    by_cases he : e' = e
    · subst he
      rw [hn]
      simp
    · have : ¬ e = e' := fun z => he z.symm
      simp [this, he]
theorem nd_ad (e v : Int) (f : List (Int × Int)) (h : (f.map (·.1)).Nodup) : ((adK e v f).map (·.1)).Nodup := by
  unfold adK
  by_cases ha : (f.any fun q => decide (q.1 = e)) = true
  · rw [if_pos ha, List.map_map]
    have : ((·.1) ∘ fun q : Int × Int => if q.1 = e then (q.1, v) else q) = (·.1) := by
      funext q
      show (if q.1 = e then (q.1, v) else q).1 = q.1
      split <;> rfl
    rw [this]
    exact h
  · rw [if_neg ha, List.map_append, List.nodup_append]
    refine ⟨h, by simp, fun a h1 b h2 => ?_⟩
    simp only [List.map_cons, List.map_nil, List.mem_singleton] at h2
    subst h2
    obtain ⟨q, hq, rfl⟩ := List.mem_map.mp h1
    exact fun z => ha (List.any_eq_true.mpr ⟨q, hq, by simp [z]⟩)
theorem mem_ad (e v : Int) (f : List (Int × Int)) (x : Int) (h : x ∈ (adK e v f).map (·.1)) : x = e ∨ x ∈ f.map (·.1) := by
  unfold adK at h
  by_cases ha : (f.any fun q => decide (q.1 = e)) = true
  · rw [if_pos ha, List.map_map] at h
    obtain ⟨q, hq, rfl⟩ := List.mem_map.mp h
    refine .inr (List.mem_map.mpr ⟨q, hq, ?_⟩)
    show q.1 = (if q.1 = e then (q.1, v) else q).1
    split <;> rfl
  · rw [if_neg ha] at h
    simp at h ⊢
    rcases h with h | h
    · exact .inr h
    · exact .inl h
theorem co_mem {f : List (Int × Int)} {e : Int} (h : e ∈ f.map (·.1)) : (f.find? fun q => decide (q.1 = e)).map (fun q => D.int q.2) = some (.int (co f e)) := by
  unfold co
  cases hf : f.find? fun q => decide (q.1 = e) with
  | some q => rfl
  | none =>
    obtain ⟨q, hq, rfl⟩ := List.mem_map.mp h
    have := List.find?_eq_none.mp hf q hq
    simp at this
theorem co_nmem {f : List (Int × Int)} {e : Int} (h : e ∉ f.map (·.1)) : co f e = 0 := by
  unfold co
  cases hf : f.find? fun q => decide (q.1 = e) with
  | none => rfl
  | some q =>
    have h1 := List.find?_some hf
    have h2 := List.mem_of_find?_eq_some hf
    exact absurd (List.mem_map.mpr ⟨q, h2, by simpa using h1⟩) h
theorem keysI_dk : ∀ f : List (Int × Int), keysI (f.map fun q => (.inl q.1 : L2.Key)) = some (f.map (·.1))
  | [] => rfl
  | q :: f => by
    show (keysI (f.map fun q => (.inl q.1 : L2.Key))).map _ = _
    rw [keysI_dk f]
    rfl
end K94
end

section
set_option Elab.async false
set_option linter.all false
set_option maxRecDepth 100000
set_option maxHeartbeats 4000000
namespace K94
open PySem PySem.Spec PyProof.Rows Dp
/-- the table of the states -/
def fdS (w : Nat) : List (RL × Int) → List (Int × Int) → List (Int × Int)
  | [], f => f
  | q :: sts, f => fdS w sts (adK ((w : Int) - q.1.length) (co f ((w : Int) - q.1.length) + q.2) f)
theorem coD (e : Int) (f : List (Int × Int)) (h : e ∈ f.map (·.1)) (m : Mu) : opIx (.dk (f.map fun q => .inl q.1) (f.map fun q => D.int q.2)) (.int e) m = .ok (.val (.int (co f e))) m := by
  show (match valD (f.map fun q => (.inl q.1 : L2.Key)) (f.map fun q => D.int q.2) (.inl e) with | some d => R.ok (SV.val d) m | none => R.bad) = _
  rw [val_dk, co_mem h]
abbrev prD (q : Int × Int) : D := .tup [.int q.1, .int q.2]
/-- the terms, the highest first -/
def termsF (f : List (Int × Int)) : List (Int × Int) := ((sortI (f.map (·.1))).reverse.filter fun e => decide (co f e ≠ 0)).map fun e => (e, co f e)
theorem mem_ins (x y : Int) : ∀ l : List Int, x ∈ insI y l ↔ x = y ∨ x ∈ l
  | [] => by simp [insI]
  | z :: l => by
    unfold insI
    split
    · simp
    · have := mem_ins x y l
      simp only [List.mem_cons, this]
      constructor
      · rintro (h | h | h) <;> simp [h]
      · rintro (h | h | h) <;> simp [h]
theorem mem_sort (x : Int) : ∀ l : List Int, x ∈ sortI l ↔ x ∈ l
  | [] => Iff.rfl
  | y :: l => by
    show x ∈ insI y (sortI l) ↔ _
    rw [mem_ins, mem_sort x l, List.mem_cons]
theorem len_ins (y : Int) : ∀ l : List Int, (insI y l).length = l.length + 1
  | [] => rfl
  | z :: l => by
    unfold insI
    split
    · rfl
    · simp [len_ins y l]
theorem len_sort : ∀ l : List Int, (sortI l).length = l.length
  | [] => rfl
  | y :: l => by
    show (insI y (sortI l)).length = _
    rw [len_ins, len_sort l]
    rfl
theorem srt_ins (y : Int) : ∀ l : List Int, l.Pairwise (· < ·) → y ∉ l → (insI y l).Pairwise (· < ·)
  | [], _, _ => by simp [insI]
  | z :: l, h, hn => by
    unfold insI
    rw [List.pairwise_cons] at h
    split
    · rename_i hyz
      refine List.pairwise_cons.mpr ⟨fun a ha => ?_, List.pairwise_cons.mpr h⟩
      rcases List.mem_cons.mp ha with rfl | ha
      · have : ¬ y = a := fun z => hn (by simp [z])
        omega
      · have := h.1 a ha
        omega
    · refine List.pairwise_cons.mpr ⟨fun a ha => ?_, srt_ins y l h.2 fun z => hn (by simp [z])⟩
      rcases (mem_ins a y l).mp ha with rfl | ha
      · omega
      · exact h.1 a ha
theorem srt_sort : ∀ l : List Int, l.Nodup → (sortI l).Pairwise (· < ·)
  | [], _ => List.Pairwise.nil
  | y :: l, h => by
    rw [List.nodup_cons] at h
    exact srt_ins y _ (srt_sort l h.2) fun z => h.1 ((mem_sort y l).mp z)
end K94
end

section
set_option Elab.async false
set_option linter.all false
/-! Int rows as vectors over Fin q. -/
namespace La
section
variable {q : Nat} [NeZero q]
def iv (q : Nat) [NeZero q] (x : Int) : Fin q := Fin.ofNat q (x % (q : Int)).toNat
theorem q_pos : (0 : Int) < (q : Int) := by
  have := NeZero.ne q
  omega
theorem iv_val (x : Int) : (((iv q x : Fin q) : Nat) : Int) = x % (q : Int) := by
  have h0 := Int.emod_nonneg x (Int.ne_of_gt (q_pos (q := q)))
  have h1 := Int.emod_lt_of_pos x (q_pos (q := q))
  show (((x % (q : Int)).toNat % q : Nat) : Int) = _
  rw [Nat.mod_eq_of_lt (by omega), Int.toNat_of_nonneg h0]
theorem iv_ext {a b : Fin q} (h : ((a : Nat) : Int) = ((b : Nat) : Int)) : a = b := Fin.ext (by omega)
theorem iv_mod (x : Int) : iv q (x % (q : Int)) = iv q x := iv_ext (by rw [iv_val, iv_val, Int.emod_emod_of_dvd _ (Int.dvd_refl _)])
theorem iv_add (x y : Int) : iv q (x + y) = iv q x + iv q y := iv_ext (by
  rw [iv_val, Fin.val_add, Int.natCast_emod, Int.natCast_add, iv_val, iv_val, ← Int.add_emod])
theorem iv_mul (x y : Int) : iv q (x * y) = iv q x * iv q y := iv_ext (by
  rw [iv_val, Fin.val_mul, Int.natCast_emod, Int.natCast_mul, iv_val, iv_val, ← Int.mul_emod])
theorem iv_zero : iv q 0 = 0 := iv_ext (by
  rw [iv_val, Int.zero_emod]
  rfl)
theorem iv_sub (x y : Int) : iv q (x - y) = iv q x - iv q y := by
  have h : iv q (x - y) + iv q y = iv q x := by rw [← iv_add]; congr 1; omega
  grind
theorem iv_eq {x y : Int} (hx : 0 ≤ x ∧ x < q) (hy : 0 ≤ y ∧ y < q) (h : iv q x = iv q y) : x = y := by
  have e := congrArg (fun a : Fin q => ((a : Nat) : Int)) h
  simp only [iv_val] at e
  rw [Int.emod_eq_of_lt hx.1 hx.2, Int.emod_eq_of_lt hy.1 hy.2] at e
  exact e
theorem iv_eq0 {x : Int} (hx : 0 ≤ x ∧ x < q) : iv q x = 0 ↔ x = 0 := by
  constructor
  · intro h
    exact iv_eq hx ⟨Int.le_refl _, q_pos⟩ (by rw [h, iv_zero])
  · rintro rfl
    exact iv_zero
theorem iv_sur (a : Fin q) : iv q ((a : Nat) : Int) = a := iv_ext (by
  rw [iv_val, Int.emod_eq_of_lt (by omega) (by have := a.isLt; omega)])
theorem iv_one (h : 1 < q) : iv q 1 = 1 := iv_ext (by
  rw [iv_val, Int.emod_eq_of_lt (by decide) (by omega)]
  show (1 : Int) = ((1 % q : Nat) : Int)
  rw [Nat.mod_eq_of_lt h]
  rfl)
def vec (q : Nat) [NeZero q] (r : List Int) : Vc q := fun i => iv q (r.getD i 0)
theorem vec_sup {r : List Int} {w : Nat} (h : r.length = w) : Sup w (vec q r) := fun i hi => by
  show iv q (r.getD i 0) = 0
  have : r.getD i 0 = 0 := by simp [List.getD, List.getElem?_eq_none (by omega : r.length ≤ i)]
  rw [this, iv_zero]
end
end La
end

section
set_option Elab.async false
set_option linter.all false
/-! The program's rows as an echelon basis. -/
namespace K94
open La
section
variable {q : Nat} [NeZero q]
abbrev RL' := List (List Int × Nat)
def vl (q : Nat) [NeZero q] (rl : RL') : List (Vc q × Nat) := rl.map fun x => (vec q x.1, x.2)
def vs (q : Nat) [NeZero q] (rl : RL') : List (Vc q) := rl.map fun x => vec q x.1
theorem vl_vs (rl : RL') : (vl q rl).map (·.1) = vs q rl := by
  unfold vl vs
  rw [List.map_map]
  rfl
theorem vec_ga (r : List Int) (i : Nat) : vec q r i = iv q (ga r i) := rfl
theorem vec_lessR {many : Int} {led left : List Int} (h : led.length = left.length) : vec q (lessR q many led left) = fun i => vec q left i - iv q many * vec q led i := by
  funext i
  unfold vec lessR
  by_cases hi : i < left.length
  · have hi2 : i < led.length := by omega
    have e : ((left.zip led).map fun x => (x.1 - many * x.2) % (q : Int)).getD i 0 = (left.getD i 0 - many * led.getD i 0) % (q : Int) := by
      rw [List.getD, List.getElem?_map, List.zip, List.getElem?_zipWith]
      simp [List.getD, hi, hi2]
    rw [e, iv_mod, iv_sub, iv_mul]
  · have e : ((left.zip led).map fun x => (x.1 - many * x.2) % (q : Int)).getD i 0 = 0 := by
      rw [List.getD, List.getElem?_eq_none (by simp; omega)]
      rfl
    have e1 : left.getD i 0 = 0 := by rw [List.getD, List.getElem?_eq_none (by omega)]; rfl
    have e2 : led.getD i 0 = 0 := by rw [List.getD, List.getElem?_eq_none (by omega)]; rfl
    rw [e, e1, e2, iv_zero]
    grind
theorem vec_scl {s : Int} {r : List Int} : vec q (scl q s r) = fun i => iv q s * vec q r i := by
  funext i
  unfold vec scl
  by_cases hi : i < r.length
  · have e : (r.map fun a => (a * s) % (q : Int)).getD i 0 = (r.getD i 0 * s) % (q : Int) := by
      simp [List.getD, hi]
    rw [e, iv_mod, iv_mul]
    grind
  · have e : (r.map fun a => (a * s) % (q : Int)).getD i 0 = 0 := by
      rw [List.getD, List.getElem?_eq_none (by simp; omega)]
      rfl
    have e1 : r.getD i 0 = 0 := by rw [List.getD, List.getElem?_eq_none (by omega)]; rfl
    rw [e, e1, iv_zero]
    grind
/-- echelon rows, with 1 at their leads -/
def EchB (q : Nat) [NeZero q] (rl : RL') : Prop := Ech (vl q rl) ∧ ∀ x ∈ rl, vec q x.1 x.2 = 1
theorem EchB.tail {x : List Int × Nat} {rl : RL'} (h : EchB q (x :: rl)) : EchB q rl := ⟨h.1.2.2, fun y hy => h.2 y (by simp [hy])⟩
theorem less_spec {w : Nat} : ∀ (rl : RL') (r : List Int), RowsP q w rl → RowP q w r → EchB q rl → spn (vs q rl) (fun i => vec q r i - vec q (lessL q rl r) i) ∧ ∀ x ∈ rl, vec q (lessL q rl r) x.2 = 0
  | [], r, _, _, _ => ⟨by
    show (fun i => vec q r i - vec q r i) = zv
    funext i
    show vec q r i - vec q r i = 0
    grind, fun x hx => nomatch hx⟩
  | (led, j) :: rl, r, h, hr, he => by
    have hx := h (led, j) (by simp)
    rw [lessL_cons]
    generalize hr1 : (if ga r (led, j).2 ≠ 0 then lessR q (ga r (led, j).2) (led, j).1 r else r) = r1
    have hr1w : RowP q w r1 := by
      rw [← hr1]
      split
      · exact lessR_row q_pos hx.1 hr
      · exact hr
    have v1 : vec q r1 = fun i => vec q r i - iv q (ga r j) * vec q led i := by
      rw [← hr1]
      split
      · exact vec_lessR (by rw [hx.1.1, hr.1])
      · rename_i hz
        have hz' : ga r j = 0 := by simpa using hz
        rw [hz', iv_zero]
        funext i
        grind
    obtain ⟨i1, i2⟩ := less_spec rl r1 (fun y hy => h y (by simp [hy])) hr1w he.tail
    have hone : vec q led j = 1 := he.2 (led, j) (by simp)
    have hj1 : vec q r1 j = 0 := by
      rw [v1]
      show vec q r j - iv q (ga r j) * vec q led j = 0
      rw [hone, vec_ga]
      grind
    have i1' := i1
    rw [← vl_vs] at i1'
    have low := ech_low (l := j) he.tail.1 (fun y hy => he.1.2.1 y hy) i1' j (Nat.le_refl _)
    refine ⟨?_, fun x hx => ?_⟩
    · refine ⟨iv q (ga r j), _, i1, ?_⟩
      funext i
      rw [v1]
      show vec q r i - vec q (lessL q rl r1) i = iv q (ga r j) * vec q led i + ((vec q r i - iv q (ga r j) * vec q led i) - vec q (lessL q rl r1) i)
      grind
    · rcases List.mem_cons.mp hx with rfl | hx
      · have low' : vec q r1 j - vec q (lessL q rl r1) j = 0 := low
        show vec q (lessL q rl r1) j = 0
        rw [hj1] at low'
        grind
      · exact i2 x hx
end
end K94
end

section
set_option Elab.async false
set_option linter.all false
/-! A row taken in: the span grows by it. -/
namespace K94
open La
section
variable {q : Nat} [NeZero q]
theorem vec_zero {w : Nat} {r : List Int} (h : RowP q w r) : vec q r = zv ↔ fp r = none := by
  constructor
  · intro hz
    cases e : fp r with
    | none => rfl
    | some j =>
      obtain ⟨h1, h2, _⟩ := fp_some e
      rw [h.1] at h1
      have hv : vec q r j = 0 := by rw [hz]; rfl
      rw [vec_ga] at hv
      exact absurd ((iv_eq0 (ga_mem h h1)).mp hv) h2
  · intro e
    funext i
    rw [vec_ga, fp_none e i, iv_zero]
    rfl
theorem vec_fst {w : Nat} {r : List Int} {j : Nat} (h : RowP q w r) (e : fp r = some j) : Fst (vec q r) j := by
  obtain ⟨h1, h2, h3⟩ := fp_some e
  rw [h.1] at h1
  refine ⟨fun hz => h2 ((iv_eq0 (ga_mem h h1)).mp hz), fun i hi => ?_⟩
  rw [vec_ga, h3 i hi, iv_zero]
theorem in_span (hF : Fld q) {w : Nat} {rl : RL'} {r : List Int} (h : RowsP q w rl) (hr : RowP q w r) (he : EchB q rl) : fp (lessL q rl r) = none ↔ spn (vs q rl) (vec q r) := by
  obtain ⟨s1, s2⟩ := less_spec rl r h hr he
  have hL : RowP q w (lessL q rl r) := lessL_row q_pos h hr
  rw [← vec_zero hL]
  constructor
  · intro hz
    have e : (fun i => vec q r i - vec q (lessL q rl r) i) = vec q r := by
      rw [hz]
      funext i
      show vec q r i - 0 = vec q r i
      grind
    rw [e] at s1
    exact s1
  · intro hs
    have h2 : spn (vs q rl) (vec q (lessL q rl r)) := by
      have := spn_lin (a := -1) s1 hs
      have e : lin (-1) (fun i => vec q r i - vec q (lessL q rl r) i) (vec q r) = vec q (lessL q rl r) := by
        funext i
        simp only [lin]
        grind
      rw [e] at this
      exact this
    apply Classical.byContradiction
    intro hn
    obtain ⟨j, hj, hf⟩ := fst_ex (vec_sup hL.1) hn
    rw [← vl_vs] at h2
    have hm := (ech_ld hF he.1).mp ⟨_, h2, hf⟩
    obtain ⟨x, hx, hxj⟩ := List.mem_map.mp hm
    obtain ⟨y, hy, rfl⟩ := List.mem_map.mp hx
    simp only at hxj
    rw [← hxj] at hf
    exact hf.1 (s2 y hy)
theorem ech_put {v : Vc q} {j : Nat} (hf : Fst v j) : ∀ {rl : List (Vc q × Nat)}, Ech rl → (∀ x ∈ rl, x.2 ≠ j) → Ech (rl.take (rl.filter fun x => decide (x.2 < j)).length ++ (v, j) :: rl.drop (rl.filter fun x => decide (x.2 < j)).length)
  | [], _, _ => ⟨hf, by simp, trivial⟩
  | (r, l) :: rest, ⟨h1, h2, h3⟩, hn => by
    by_cases hl : l < j
    · rw [List.filter_cons_of_pos (by simpa using hl)]
      simp only [List.length_cons, List.take_succ_cons, List.drop_succ_cons, List.cons_append]
      refine ⟨h1, fun x hx => ?_, ech_put hf h3 fun x hx => hn x (by simp [hx])⟩
      rcases List.mem_append.mp hx with hx | hx
      · exact h2 x (List.mem_of_mem_take hx)
      · rcases List.mem_cons.mp hx with rfl | hx
        · exact hl
        · exact h2 x (List.mem_of_mem_drop hx)
    · have hlj : j < l := by
        have := hn (r, l) (by simp)
        simp only at this
        omega
      have e : ((r, l) :: rest).filter (fun x => decide (x.2 < j)) = [] := by
        rw [List.filter_eq_nil_iff]
        intro x hx
        rcases List.mem_cons.mp hx with rfl | hx
        · simpa using hl
        · have := h2 x hx
          simp
          omega
      rw [e]
      refine ⟨hf, fun x hx => ?_, h1, h2, h3⟩
      rcases List.mem_cons.mp hx with rfl | hx
      · exact hlj
      · exact Nat.lt_trans hlj (h2 x hx)
theorem sm_app {a b : List (Vc q)} (h : Sm a b) : ∀ l : List (Vc q), Sm (l ++ a) (l ++ b)
  | [] => h
  | x :: l => sm_cons (sm_app h l)
theorem gr_ech (hF : Fld q) {w : Nat} {rl rl' : RL'} {r : List Int} (h : RowsP q w rl) (hr : RowP q w r) (he : EchB q rl) (g : Gr q rl r rl') : EchB q rl' ∧ Sm (vs q rl') (vec q r :: vs q rl) := by
  have is := in_span hF h hr he
  obtain ⟨s1, s2⟩ := less_spec rl r h hr he
  have hL : RowP q w (lessL q rl r) := lessL_row q_pos h hr
  unfold Gr at g
  cases e : fp (lessL q rl r) with
  | none =>
    rw [e] at g
    cases g
    exact ⟨he, (sm_in (is.mp e)).symm⟩
  | some j =>
    rw [e] at g
    obtain ⟨s, iv1, rfl⟩ := g
    have fL := vec_fst hL e
    have one : iv q (ga (lessL q rl r) j) * iv q s = 1 := by
      rw [← iv_mul, ← iv_mod, iv1.2.2]
      apply iv_ext
      rw [iv_val]
      have h2 := iv1.2.2
      have hq1 : 1 < (q : Int) := by
        have := Int.emod_lt_of_pos (ga (lessL q rl r) j * s) (q_pos (q := q))
        omega
      rw [Int.emod_eq_of_lt (by decide) hq1]
      show (1 : Int) = ((1 % q : Nat) : Int)
      rw [Nat.mod_eq_of_lt (by omega)]
      rfl
    generalize hled : scl q s (lessL q rl r) = led
    have hledw : RowP q w led := by rw [← hled]; exact scl_row q_pos hL
    have vled : vec q led = fun i => iv q s * vec q (lessL q rl r) i := by rw [← hled]; exact vec_scl
    have ledj : vec q led j = 1 := by
      rw [vled]
      show iv q s * vec q (lessL q rl r) j = 1
      rw [vec_ga]
      grind
    have one0 : (1 : Fin q) ≠ 0 := fun z => by
      apply fL.1
      rw [vec_ga]
      have : iv q (ga (lessL q rl r) j) = iv q (ga (lessL q rl r) j) * 1 := by grind
      rw [this, z]
      grind
    have fled : Fst (vec q led) j := ⟨by rw [ledj]; exact one0, fun i hi => by
      rw [vled]
      show iv q s * vec q (lessL q rl r) i = 0
      rw [fL.2 i hi]
      grind⟩
    have ledx : ∀ x ∈ rl, vec q led x.2 = 0 := fun x hx => by
      rw [vled]
      show iv q s * vec q (lessL q rl r) x.2 = 0
      rw [s2 x hx]
      grind
    have xj : ∀ x ∈ rl, x.2 ≠ j := fun x hx z => fL.1 (z ▸ s2 x hx)
    -- the old rows
    have vold : ∀ x ∈ rl, vec q (lessL q [(led, j)] x.1) = fun i => vec q x.1 i - vec q x.1 j * vec q led i := fun x hx => by
      rw [lessL_cons]
      show vec q (if ga x.1 j ≠ 0 then lessR q (ga x.1 j) led x.1 else x.1) = _
      split
      · rw [vec_lessR (by rw [hledw.1, (h x hx).1.1])]
        rfl
      · rename_i hz
        have hz' : ga x.1 j = 0 := by simpa using hz
        rw [vec_ga x.1 j, hz', iv_zero]
        funext i
        grind
    have fx : ∀ x ∈ rl, Fst (vec q x.1) x.2 := by
      have : ∀ (l : List (Vc q × Nat)), Ech l → ∀ y ∈ l, Fst y.1 y.2 := by
        intro l
        induction l with
        | nil => exact fun _ y hy => nomatch hy
        | cons z l ih =>
          intro hz y hy
          rcases List.mem_cons.mp hy with rfl | hy
          · exact hz.1
          · exact ih hz.2.2 y hy
      exact fun x hx => this _ he.1 (vec q x.1, x.2) (List.mem_map.mpr ⟨x, hx, rfl⟩)
    have old1 : ∀ x ∈ rl, vec q (lessL q [(led, j)] x.1) x.2 = 1 := fun x hx => by
      rw [vold x hx]
      show vec q x.1 x.2 - vec q x.1 j * vec q led x.2 = 1
      rw [ledx x hx, he.2 x hx]
      grind
    have fold' : ∀ x ∈ rl, Fst (vec q (lessL q [(led, j)] x.1)) x.2 := fun x hx => by
      refine ⟨by rw [old1 x hx]; exact one0, fun i hi => ?_⟩
      rw [vold x hx]
      show vec q x.1 i - vec q x.1 j * vec q led i = 0
      have h0 := (fx x hx).2 i hi
      rcases Nat.lt_or_ge x.2 j with hj | hj
      · rw [h0, fled.2 i (by omega)]
        grind
      · have := xj x hx
        have hz := (fx x hx).2 j (by omega)
        rw [h0, hz]
        grind
    generalize hold : (rl.map fun x => (lessL q [(led, j)] x.1, x.2)) = old
    have eold : Ech (vl q old) := by
      have : ∀ l : RL', (∀ x ∈ l, Fst (vec q (lessL q [(led, j)] x.1)) x.2) → Ech (vl q l) → Ech (vl q (l.map fun x => (lessL q [(led, j)] x.1, x.2))) := by
        intro l
        induction l with
        | nil => exact fun _ _ => trivial
        | cons z l ih =>
          intro hz hh
          refine ⟨hz z (by simp), fun y hy => ?_, ih (fun x hx => hz x (by simp [hx])) hh.2.2⟩
          obtain ⟨y1, hy1, rfl⟩ := List.mem_map.mp hy
          obtain ⟨y2, hy2, rfl⟩ := List.mem_map.mp hy1
          exact hh.2.1 (vec q y2.1, y2.2) (List.mem_map.mpr ⟨y2, hy2, rfl⟩)
      rw [← hold]
      exact this rl fold' he.1
    have hk : (rl.filter fun x => decide (x.2 < j)).length = ((vl q old).filter fun x => decide (x.2 < j)).length := by
      rw [← hold]
      unfold vl
      rw [List.map_map, List.filter_map, List.length_map]
      rfl
    have insE : insG q rl led j = old.take (rl.filter fun x => decide (x.2 < j)).length ++ (led, j) :: old.drop (rl.filter fun x => decide (x.2 < j)).length := by
      rw [← hold]
      rfl
    have nold : ∀ x ∈ vl q old, x.2 ≠ j := fun x hx => by
      rw [← hold] at hx
      obtain ⟨y, hy, rfl⟩ := List.mem_map.mp hx
      obtain ⟨z, hz, rfl⟩ := List.mem_map.mp hy
      exact xj z hz
    have pm : (insG q rl led j).Perm ((led, j) :: old) := by
      rw [insE]
      refine List.perm_middle.trans ?_
      rw [List.take_append_drop]
    refine ⟨⟨?_, fun x hx => ?_⟩, ?_⟩
    · have := ech_put fled eold nold
      rw [insE, hk]
      unfold vl at this ⊢
      rw [List.map_append, List.map_cons, List.map_take, List.map_drop]
      exact this
    · rcases List.mem_cons.mp (pm.mem_iff.mp hx) with rfl | hx
      · exact ledj
      · rw [← hold] at hx
        obtain ⟨y, hy, rfl⟩ := List.mem_map.mp hx
        exact old1 y hy
    · have p1 : Sm (vs q (insG q rl led j)) (vec q led :: vs q old) := sm_perm (by have := pm.map fun x : List Int × Nat => vec q x.1; exact this)
      have p2 : Sm (vec q led :: vs q old) (vec q led :: vs q rl) := by
        refine sm_of (fun v hv => ?_) (fun v hv => ?_)
        · rcases List.mem_cons.mp hv with rfl | hv
          · exact spn_head _ _
          · unfold vs at hv
            rw [← hold] at hv
            obtain ⟨y, hy, rfl⟩ := List.mem_map.mp hv
            obtain ⟨x, hx, rfl⟩ := List.mem_map.mp hy
            have g1 : spn (vec q led :: vs q rl) (vec q x.1) := spn_tail (spn_mem (List.mem_map.mpr ⟨x, hx, rfl⟩))
            have g2 := spn_lin (a := - vec q x.1 j) (spn_head (vec q led) (vs q rl)) g1
            have e : lin (- vec q x.1 j) (vec q led) (vec q x.1) = vec q (lessL q [(led, j)] x.1) := by
              rw [vold x hx]
              funext i
              simp only [lin]
              grind
            rw [e] at g2
            exact g2
        · rcases List.mem_cons.mp hv with rfl | hv
          · exact spn_head _ _
          · obtain ⟨x, hx, rfl⟩ := List.mem_map.mp hv
            have g1 : spn (vec q led :: vs q old) (vec q (lessL q [(led, j)] x.1)) := spn_tail (spn_mem (by
              unfold vs
              rw [← hold, List.map_map]
              exact List.mem_map.mpr ⟨x, hx, rfl⟩))
            have g2 := spn_lin (a := vec q x.1 j) (spn_head (vec q led) (vs q old)) g1
            have e : lin (vec q x.1 j) (vec q led) (vec q (lessL q [(led, j)] x.1)) = vec q x.1 := by
              rw [vold x hx]
              funext i
              simp only [lin]
              grind
            rw [e] at g2
            exact g2
      have p3 : Sm (vec q led :: vs q rl) (vec q r :: vs q rl) := by
        refine sm_of (fun v hv => ?_) (fun v hv => ?_)
        · rcases List.mem_cons.mp hv with rfl | hv
          · have g1 := spn_lin (a := -1) (spn_tail (r := vec q r) s1) (spn_head (vec q r) (vs q rl))
            have g2 := spn_smul (a := iv q s) g1
            have e : (fun i => iv q s * lin (-1) (fun i => vec q r i - vec q (lessL q rl r) i) (vec q r) i) = vec q led := by
              rw [vled]
              funext i
              simp only [lin]
              grind
            rw [e] at g2
            exact g2
          · exact spn_tail (spn_mem hv)
        · rcases List.mem_cons.mp hv with rfl | hv
          · have g1 := spn_lin (a := iv q (ga (lessL q rl r) j)) (spn_head (vec q led) (vs q rl)) (spn_tail s1)
            have e : lin (iv q (ga (lessL q rl r) j)) (vec q led) (fun i => vec q r i - vec q (lessL q rl r) i) = vec q r := by
              rw [vled]
              funext i
              simp only [lin]
              grind
            rw [e] at g1
            exact g1
          · exact spn_tail (spn_mem hv)
      exact (p1.trans p2).trans p3
theorem rd_ech (hF : Fld q) {w : Nat} : ∀ {ps : List (List Int)} {rl rl' : RL'}, RowsP q w rl → (∀ r ∈ ps, RowP q w r) → EchB q rl → Rd q ps rl rl' → EchB q rl' ∧ Sm (vs q rl') (ps.map (vec q) ++ vs q rl)
  | [], rl, rl', _, _, he, g => by
    have : rl' = rl := g
    subst this
    exact ⟨he, Sm.refl _⟩
  | r :: ps, rl, rl', h, hp, he, ⟨r1, g1, g2⟩ => by
    obtain ⟨e1, e2⟩ := gr_ech hF h (hp r (by simp)) he g1
    obtain ⟨e3, e4⟩ := rd_ech hF (Gr_rows q_pos h (hp r (by simp)) g1).1 (fun x hx => hp x (by simp [hx])) e1 g2
    refine ⟨e3, e4.trans ((sm_app e2 _).trans (sm_perm ?_))⟩
    rw [List.map_cons, List.cons_append]
    exact List.perm_middle
theorem ech_len (hF : Fld q) {w : Nat} {rl : RL'} (h : RowsP q w rl) (he : EchB q rl) : rl.length = dim w (spn (vs q rl)) := by
  have := ech_dim hF (w := w) he.1 (fun x hx => by
    obtain ⟨y, hy, rfl⟩ := List.mem_map.mp hx
    exact (h y hy).2)
  rw [vl_vs] at this
  rw [this]
  unfold vl
  rw [List.length_map]
theorem dim_le (w : Nat) (S : Vc q → Prop) : dim w S ≤ w := by
  unfold dim
  exact Nat.le_trans (List.length_filter_le _ _) (by simp)
end
end K94
end

section
set_option Elab.async false
set_option linter.all false
/-! The states' sum; the terms told. -/
namespace K94
open La
section
variable {q : Nat} [NeZero q]
def smS (f : List (Vc q) → Int) : List (RL × Int) → Int
  | [] => 0
  | s :: sts => s.2 * f (vs q s.1) + smS f sts
def EchS (q : Nat) [NeZero q] (w : Nat) (sts : List (RL × Int)) : Prop := ∀ s ∈ sts, RowsP q w s.1 ∧ EchB q s.1
theorem st1_sum (hF : Fld q) {f : List (Vc q) → Int} (hf : La.Inv f) {w : Nat} {r : List Int} (hr : RowP q w r) (rows : List (Vc q)) : ∀ {sts out : List (RL × Int)}, EchS q w sts → St1 q r sts out → EchS q w out ∧ smS (fun b => Pl f b (vec q r :: rows)) sts = smS (fun b => Pl f b rows) out
  | [], out, _, h => by
    have : out = [] := h
    subst this
    exact ⟨fun s hs => (nomatch hs), rfl⟩
  | s :: sts, out, he, h => by
    obtain ⟨h1, h2⟩ := he s (by simp)
    have hs : EchS q w sts := fun x hx => he x (by simp [hx])
    have is := in_span hF h1 hr h2
    unfold St1 at h
    split at h
    · rename_i hn
      obtain ⟨e1, e2⟩ := st1_sum hF hf hr rows hs h
      refine ⟨e1, ?_⟩
      show s.2 * Pl f (vs q s.1) (vec q r :: rows) + smS _ sts = _
      rw [e2, pl_in hf ⟨vec q r, by simp, is.mp hn⟩]
      omega
    · obtain ⟨rl', o, g1, g2, rfl⟩ := h
      obtain ⟨e1, e2⟩ := st1_sum hF hf hr rows hs g2
      obtain ⟨k1, k2⟩ := gr_ech hF h1 hr h2 g1
      refine ⟨fun x hx => ?_, ?_⟩
      · rcases List.mem_cons.mp hx with rfl | hx
        · exact ⟨h1, h2⟩
        · rcases List.mem_cons.mp hx with rfl | hx
          · exact ⟨(Gr_rows q_pos h1 hr g1).1, k1⟩
          · exact e1 x hx
      · show s.2 * (Pl f (vs q s.1) rows - Pl f (vec q r :: vs q s.1) rows) + smS _ sts = s.2 * Pl f (vs q s.1) rows + (-s.2 * Pl f (vs q rl') rows + smS _ o)
        rw [e2, pl_sm hf k2, Int.mul_sub, Int.neg_mul]
        omega
theorem stn_sum (hF : Fld q) {f : List (Vc q) → Int} (hf : La.Inv f) {w : Nat} : ∀ {ps : List (List Int)} {sts out : List (RL × Int)}, (∀ r ∈ ps, RowP q w r) → EchS q w sts → Stn q ps sts out → EchS q w out ∧ smS (fun b => Pl f b (ps.map (vec q))) sts = smS f out
  | [], sts, out, _, he, h => by
    have : out = sts := h
    subst this
    exact ⟨he, rfl⟩
  | r :: ps, sts, out, hp, he, ⟨o, h1, h2⟩ => by
    obtain ⟨e1, e2⟩ := st1_sum hF hf (hp r (by simp)) (ps.map (vec q)) he h1
    obtain ⟨e3, e4⟩ := stn_sum hF hf (fun x hx => hp x (by simp [hx])) e1 h2
    exact ⟨e3, e2.trans e4⟩
/-- 1 where the rows leave e -/
noncomputable def fE (q : Nat) [NeZero q] (w : Nat) (e : Int) (b : List (Vc q)) : Int := if (w : Int) - dim w (spn b) = e then 1 else 0
theorem fE_inv (w : Nat) (e : Int) : La.Inv (fE q w e) := fun a b h => by
  unfold fE
  rw [dim_sm h]
theorem co_fdS (hF : Fld q) {w : Nat} (e : Int) : ∀ (sts : List (RL × Int)) (f : List (Int × Int)), EchS q w sts → co (fdS w sts f) e = co f e + smS (fE q w e) sts
  | [], f, _ => by
    show co f e = co f e + 0
    omega
  | s :: sts, f, he => by
    obtain ⟨h1, h2⟩ := he s (by simp)
    show co (fdS w sts (adK ((w : Int) - s.1.length) (co f ((w : Int) - s.1.length) + s.2) f)) e = co f e + (s.2 * fE q w e (vs q s.1) + smS (fE q w e) sts)
    rw [co_fdS hF e sts _ fun x hx => he x (by simp [hx]), co_ad]
    unfold fE
    rw [← ech_len hF h1 h2]
    by_cases hz : e = (w : Int) - s.1.length
    · rw [if_pos hz, if_pos hz.symm, hz]
      omega
    · rw [if_neg hz, if_neg fun z => hz z.symm]
      omega
theorem mem_fdS (w : Nat) (x : Int) : ∀ (sts : List (RL × Int)) (f : List (Int × Int)), x ∈ (fdS w sts f).map (·.1) → x ∈ f.map (·.1) ∨ ∃ s ∈ sts, x = (w : Int) - s.1.length
  | [], f, h => .inl h
  | s :: sts, f, h => by
    rcases mem_fdS w x sts _ h with h | ⟨t, h1, h2⟩
    · rcases mem_ad _ _ _ _ h with h | h
      · exact .inr ⟨s, by simp, h⟩
      · exact .inl h
    · exact .inr ⟨t, by simp [h1], h2⟩
theorem nd_fdS (w : Nat) : ∀ (sts : List (RL × Int)) (f : List (Int × Int)), (f.map (·.1)).Nodup → ((fdS w sts f).map (·.1)).Nodup
  | [], f, h => h
  | s :: sts, f, h => nd_fdS w sts _ (nd_ad _ _ _ h)
/-- the numbers w down to 0 -/
def dn (w : Nat) : List Int := (List.range (w + 1)).map fun i : Nat => (w : Int) - i
def ansL (c : Int → Int) (w : Nat) : List (Int × Int) := ((dn w).filter fun e => decide (c e ≠ 0)).map fun e => (e, c e)
theorem mem_dn (w : Nat) (e : Int) : e ∈ dn w ↔ 0 ≤ e ∧ e ≤ w := by
  unfold dn
  rw [List.mem_map]
  constructor
  · rintro ⟨i, hi, rfl⟩
    have := List.mem_range.mp hi
    omega
  · intro h
    exact ⟨(w - e.toNat), List.mem_range.mpr (by omega), by omega⟩
theorem dn_pw (w : Nat) : (dn w).Pairwise (· > ·) := by
  unfold dn
  rw [List.pairwise_map]
  refine List.pairwise_lt_range.imp fun {a b} h => ?_
  show (w : Int) - b < (w : Int) - a
  omega
theorem desc_eq {a b : List Int} (ha : a.Pairwise (· > ·)) (hb : b.Pairwise (· > ·)) (h : ∀ x, x ∈ a ↔ x ∈ b) : a = b := by
  refine List.Perm.eq_of_pairwise (le := (· > ·)) (fun x y _ _ h1 h2 => by omega) ha hb ?_
  rw [List.perm_ext_iff_of_nodup (ha.imp fun {x y} h => by omega) (hb.imp fun {x y} h => by omega)]
  exact h
theorem terms_ans {f : List (Int × Int)} {w : Nat} (hn : (f.map (·.1)).Nodup) (hk : ∀ x ∈ f.map (·.1), 0 ≤ x ∧ x ≤ (w : Int)) : termsF f = ansL (co f) w := by
  unfold termsF ansL
  congr 1
  refine desc_eq ?_ ((dn_pw w).filter _) fun x => ?_
  · refine List.Pairwise.filter _ ?_
    rw [List.pairwise_reverse]
    exact (srt_sort _ hn).imp fun {a b} h => h
  · rw [List.mem_filter, List.mem_filter, List.mem_reverse, mem_sort, mem_dn, decide_eq_true_eq]
    constructor
    · exact fun h => ⟨hk x h.1, h.2⟩
    · exact fun h => ⟨Classical.byContradiction fun hz => h.2 (co_nmem hz), h.2⟩
theorem ans_congr {c d : Int → Int} (h : ∀ e, c e = d e) (w : Nat) : ansL c w = ansL d w := by
  rw [funext h]
/-- the polynomial of the rows -/
noncomputable def PP (q : Nat) [NeZero q] (w : Nat) (R B : List (List Int)) (e : Int) : Int := Pl (fE q w e) (R.map (vec q)) (B.map (vec q))
theorem mend_ans (hF : Fld q) {w : Nat} {R B : List (List Int)} {rl : RL} {sts : List (RL × Int)} (hR : ∀ r ∈ R, RowP q w r) (hB : ∀ r ∈ B, RowP q w r) (hrl : RowsP q w rl) (g : Rd q R [] rl) (h : Stn q B [(rl, 1)] sts) :
    termsF (fdS w sts []) = ansL (PP q w R B) w ∧ (fdS w sts []).length ≤ w + 1 := by
  obtain ⟨e1, e2⟩ := rd_ech hF (rl := []) (fun x hx => nomatch hx) hR ⟨trivial, fun x hx => nomatch hx⟩ g
  have s0 : EchS q w [(rl, 1)] := fun x hx => by
    obtain rfl : x = _ := List.mem_singleton.mp hx
    exact ⟨hrl, e1⟩
  have hE : EchS q w sts := (stn_sum hF (fE_inv w 0) hB s0 h).1
  have nd := nd_fdS w sts [] List.nodup_nil
  have ks : ∀ x ∈ (fdS w sts []).map (·.1), 0 ≤ x ∧ x ≤ (w : Int) := fun x hx => by
    rcases mem_fdS w x sts [] hx with h | ⟨s, h1, h2⟩
    · exact nomatch h
    · have h3 := ech_len hF (hE s h1).1 (hE s h1).2
      have h4 := dim_le w (spn (vs q s.1))
      omega
  refine ⟨?_, ?_⟩
  · rw [terms_ans nd ks]
    refine ans_congr (fun e => ?_) w
    rw [co_fdS hF e sts [] hE]
    have s2 := (stn_sum hF (fE_inv w e) hB s0 h).2
    have s3 : smS (fun b => Pl (fE q w e) b (B.map (vec q))) [(rl, 1)] = Pl (fE q w e) (vs q rl) (B.map (vec q)) := by
      show 1 * Pl (fE q w e) (vs q rl) (B.map (vec q)) + 0 = _
      omega
    rw [← s2, s3]
    unfold PP
    have e3 : Sm (vs q rl) (R.map (vec q)) := by
      have : R.map (vec q) ++ vs q [] = R.map (vec q) := by
        show _ ++ [] = _
        simp
      rw [this] at e2
      exact e2
    rw [pl_sm (fE_inv w e) e3]
    show (0 : Int) + _ = _
    omega
  · have : ((fdS w sts []).map (·.1)).length ≤ (dn w).length := List.Nodup.length_le_of_subset nd fun x hx => (mem_dn w x).mpr (ks x hx)
    unfold dn at this
    simpa using this
theorem pl_abs {f : List (Vc q) → Int} (hf : ∀ b, 0 ≤ f b ∧ f b ≤ 1) : ∀ (rows a : List (Vc q)), -(2 ^ rows.length : Nat) ≤ Pl f a rows ∧ Pl f a rows ≤ (2 ^ rows.length : Nat)
  | [], a => by
    have := hf a
    show -(1 : Int) ≤ f a ∧ f a ≤ 1
    omega
  | r :: rows, a => by
    have h1 := pl_abs hf rows a
    have h2 := pl_abs hf rows (r :: a)
    show _ ≤ Pl f a rows - Pl f (r :: a) rows ∧ Pl f a rows - Pl f (r :: a) rows ≤ _
    rw [List.length_cons, Nat.pow_succ]
    omega
theorem fE_01 (w : Nat) (e : Int) (b : List (Vc q)) : 0 ≤ fE q w e b ∧ fE q w e b ≤ 1 := by
  unfold fE
  split <;> decide
theorem PP_abs (w : Nat) (R B : List (List Int)) (e : Int) (h : B.length ≤ 10) : -1024 ≤ PP q w R B e ∧ PP q w R B e ≤ 1024 := by
  have := pl_abs (fE_01 (q := q) w e) (B.map (vec q)) (R.map (vec q))
  have h2 : 2 ^ (B.map (vec q)).length ≤ 2 ^ 10 := Nat.pow_le_pow_right (by decide) (by simpa using h)
  have h3 : (2 : Nat) ^ 10 = 1024 := by decide
  unfold PP
  omega
end
end K94
end

section
set_option Elab.async false
set_option linter.all false
/-! The law's rank. -/
namespace K94
open La
/-- the first row that is not 0 at c -/
def fr (c : Nat) : List (List Int) → Option Nat
  | [] => none
  | x :: l => if ga x c ≠ 0 then some 0 else (fr c l).map (· + 1)
theorem fr_none {c : Nat} : ∀ {l : List (List Int)}, fr c l = none → ∀ x ∈ l, ga x c = 0
  | x :: l, h, y, hy => by
    unfold fr at h
    by_cases hx : ga x c ≠ 0
    · rw [if_pos hx] at h
      cases h
    · rw [if_neg hx] at h
      cases e : fr c l with
      | some k => rw [e] at h; cases h
      | none =>
        rcases List.mem_cons.mp hy with rfl | hy
        · simpa using hx
        · exact fr_none e y hy
theorem fr_some {c : Nat} : ∀ {l : List (List Int)} {k : Nat}, fr c l = some k → ∃ a r b, l = a ++ r :: b ∧ a.length = k ∧ ga r c ≠ 0
  | x :: l, k, h => by
    unfold fr at h
    by_cases hx : ga x c ≠ 0
    · rw [if_pos hx] at h
      cases h
      exact ⟨[], x, l, rfl, rfl, hx⟩
    · rw [if_neg hx] at h
      cases e : fr c l with
      | none => rw [e] at h; cases h
      | some j =>
        rw [e] at h
        cases h
        obtain ⟨a, r, b, h1, h2, h3⟩ := fr_some e
        exact ⟨x :: a, r, b, by rw [h1]; rfl, by simp [h2], h3⟩
/-- one column -/
def RkS (p : Int) (c : Nat) (dn td dn' td' : List (List Int)) : Prop := match fr c td with
  | none => dn' = dn ∧ td' = td
  | some k => ∃ s, Iv p (ga (td.getD k []) c) s ∧ dn' = dn ++ [scl p s (td.getD k [])] ∧ td' = (td.eraseIdx k).map fun x => lessR p (ga x c) (scl p s (td.getD k [])) x
def Rk (p : Int) : List Nat → List (List Int) → List (List Int) → List (List Int) → List (List Int) → Prop
  | [], dn, td, dn', td' => dn' = dn ∧ td' = td
  | c :: cs, dn, td, dn', td' => ∃ d t, RkS p c dn td d t ∧ Rk p cs d t dn' td'
theorem rks_row {p : Int} (hp : 0 < p) {w c : Nat} {dn td dn' td' : List (List Int)} (h1 : ∀ x ∈ dn, RowP p w x) (h2 : ∀ x ∈ td, RowP p w x) (h : RkS p c dn td dn' td') : (∀ x ∈ dn', RowP p w x) ∧ (∀ x ∈ td', RowP p w x) ∧ dn'.length + td'.length = dn.length + td.length := by
  unfold RkS at h
  cases e : fr c td with
  | none =>
    rw [e] at h
    obtain ⟨rfl, rfl⟩ := h
    exact ⟨h1, h2, rfl⟩
  | some k =>
    rw [e] at h
    obtain ⟨s, iv1, rfl, rfl⟩ := h
    obtain ⟨a, r, b, rfl, rfl, h3⟩ := fr_some e
    have g1 : (a ++ r :: b).getD a.length [] = r := by simp [List.getD]
    have g2 : (a ++ r :: b).eraseIdx a.length = a ++ b := by
      rw [List.eraseIdx_append_of_length_le (Nat.le_refl _)]
      simp
    rw [g1, g2]
    have hr := scl_row (s := s) hp (h2 r (by simp))
    refine ⟨fun x hx => ?_, fun x hx => ?_, ?_⟩
    · rcases List.mem_append.mp hx with hx | hx
      · exact h1 x hx
      · obtain rfl := List.mem_singleton.mp hx
        exact hr
    · obtain ⟨y, hy, rfl⟩ := List.mem_map.mp hx
      refine lessR_row hp hr (h2 y ?_)
      rcases List.mem_append.mp hy with hy | hy <;> simp [hy]
    · simp
      omega
section
variable {q : Nat} [NeZero q]
theorem ech_snoc {v : Vc q} {c : Nat} (hf : Fst v c) : ∀ {el : List (Vc q × Nat)}, Ech el → (∀ x ∈ el, x.2 < c) → Ech (el ++ [(v, c)])
  | [], _, _ => ⟨hf, (fun x hx => nomatch hx), trivial⟩
  | (r, l) :: el, ⟨h1, h2, h3⟩, h => ⟨h1, fun x hx => by
      rcases List.mem_append.mp hx with hx | hx
      · exact h2 x hx
      · obtain rfl := List.mem_singleton.mp hx
        exact h (r, l) (by simp), ech_snoc hf h3 fun x hx => h x (by simp [hx])⟩
theorem sm_less (l : Vc q) (k : Vc q → Fin q) (xs : List (Vc q)) : Sm (l :: xs.map fun x => fun i => x i - k x * l i) (l :: xs) := by
  refine sm_of (fun v hv => ?_) (fun v hv => ?_)
  · rcases List.mem_cons.mp hv with rfl | hv
    · exact spn_head _ _
    · obtain ⟨x, hx, rfl⟩ := List.mem_map.mp hv
      have g := spn_lin (a := - k x) (spn_head l xs) (spn_tail (spn_mem hx))
      have e : lin (- k x) l x = fun i => x i - k x * l i := by
        funext i
        simp only [lin]
        grind
      rw [e] at g
      exact g
  · rcases List.mem_cons.mp hv with rfl | hv
    · exact spn_head _ _
    · have g := spn_lin (a := k v) (spn_head l (xs.map fun x => fun i => x i - k x * l i)) (spn_tail (spn_mem (List.mem_map.mpr ⟨v, hv, rfl⟩)))
      have e : lin (k v) l (fun i => v i - k v * l i) = v := by
        funext i
        simp only [lin]
        grind
      rw [e] at g
      exact g
theorem sm_scale {a b : Fin q} (h : a * b = 1) (r : Vc q) (xs : List (Vc q)) : Sm ((fun i => a * r i) :: xs) (r :: xs) := by
  refine sm_of (fun v hv => ?_) (fun v hv => ?_)
  · rcases List.mem_cons.mp hv with rfl | hv
    · exact spn_smul (spn_head _ _)
    · exact spn_tail (spn_mem hv)
  · rcases List.mem_cons.mp hv with rfl | hv
    · have g := spn_smul (a := b) (spn_head (fun i => a * v i) xs)
      have e : (fun i => b * (a * v i)) = v := by
        funext i
        grind
      rw [e] at g
      exact g
    · exact spn_tail (spn_mem hv)
theorem iv_inv {x s : Int} (h : Iv q x s) : iv q x * iv q s = 1 ∧ (1 : Fin q) ≠ 0 := by
  have h2 := h.2.2
  have hq1 : 1 < (q : Int) := by
    have := Int.emod_lt_of_pos (x * s) (q_pos (q := q))
    omega
  have e1 : iv q 1 = 1 := iv_one (by omega)
  constructor
  · rw [← iv_mul, ← iv_mod, h2, e1]
  · rw [← e1]
    intro z
    have := iv_eq (q := q) (x := 1) (y := 0) ⟨by decide, hq1⟩ ⟨by decide, by omega⟩ (by rw [z, iv_zero])
    omega
/-- what holds ahead of column c -/
def RkI (q : Nat) [NeZero q] (w c : Nat) (dn td : List (List Int)) : Prop := (∃ el : List (Vc q × Nat), el.map (·.1) = dn.map (vec q) ∧ Ech el ∧ ∀ x ∈ el, x.2 < c) ∧ (∀ x ∈ dn, RowP q w x) ∧ (∀ x ∈ td, RowP q w x) ∧ ∀ x ∈ td, ∀ i, i < c → vec q x i = 0
theorem rks_inv {w c : Nat} (hc : c < w) {dn td dn' td' : List (List Int)} (h : RkI q w c dn td) (g : RkS q c dn td dn' td') : RkI q w (c + 1) dn' td' ∧ Sm ((dn' ++ td').map (vec q)) ((dn ++ td).map (vec q)) := by
  obtain ⟨⟨el, e1, e2, e3⟩, h1, h2, h3⟩ := h
  have rw1 := rks_row q_pos h1 h2 g
  unfold RkS at g
  cases e : fr c td with
  | none =>
    rw [e] at g
    obtain ⟨rfl, rfl⟩ := g
    refine ⟨⟨⟨el, e1, e2, fun x hx => Nat.lt_succ_of_lt (e3 x hx)⟩, h1, h2, fun x hx i hi => ?_⟩, Sm.refl _⟩
    rcases Nat.lt_or_ge i c with hi' | hi'
    · exact h3 x hx i hi'
    · obtain rfl : i = c := by omega
      rw [vec_ga, fr_none e x hx, iv_zero]
  | some k =>
    rw [e] at g
    obtain ⟨s, iv1, rfl, rfl⟩ := g
    obtain ⟨a, r, b, rfl, rfl, hr0⟩ := fr_some e
    have g1 : (a ++ r :: b).getD a.length [] = r := by simp [List.getD]
    have g2 : (a ++ r :: b).eraseIdx a.length = a ++ b := by
      rw [List.eraseIdx_append_of_length_le (Nat.le_refl _)]
      simp
    rw [g1, g2] at rw1 ⊢
    rw [g1] at iv1
    obtain ⟨one, one0⟩ := iv_inv iv1
    have hr := h2 r (by simp)
    have vl : vec q (scl q s r) = fun i => iv q s * vec q r i := vec_scl
    have vl1 : vec q (scl q s r) c = 1 := by
      rw [vl]
      show iv q s * iv q (ga r c) = 1
      grind
    have vl0 : ∀ i, i < c → vec q (scl q s r) i = 0 := fun i hi => by
      rw [vl]
      show iv q s * vec q r i = 0
      rw [h3 r (by simp) i hi]
      grind
    have fl : Fst (vec q (scl q s r)) c := ⟨by rw [vl1]; exact one0, vl0⟩
    have mem : ∀ x, x ∈ a ++ b → x ∈ a ++ r :: b := fun x hx => by
      rcases List.mem_append.mp hx with hx | hx <;> simp [hx]
    have vx : ∀ x ∈ a ++ b, vec q (lessR q (ga x c) (scl q s r) x) = fun i => vec q x i - vec q x c * vec q (scl q s r) i := fun x hx => by
      rw [vec_lessR (by rw [(scl_row q_pos hr).1, (h2 x (mem x hx)).1])]
      rfl
    refine ⟨⟨⟨el ++ [(vec q (scl q s r), c)], by simp [e1], ech_snoc fl e2 e3, fun x hx => ?_⟩, rw1.1, rw1.2.1, fun x hx i hi => ?_⟩, ?_⟩
    · rcases List.mem_append.mp hx with hx | hx
      · exact Nat.lt_succ_of_lt (e3 x hx)
      · obtain rfl := List.mem_singleton.mp hx
        exact Nat.lt_succ_self _
    · obtain ⟨y, hy, rfl⟩ := List.mem_map.mp hx
      rw [vx y hy]
      show vec q y i - vec q y c * vec q (scl q s r) i = 0
      rcases Nat.lt_or_ge i c with hi' | hi'
      · rw [h3 y (mem y hy) i hi', vl0 i hi']
        grind
      · obtain rfl : i = c := by omega
        rw [vl1]
        grind
    · have p0 : ((a ++ b).map fun x => vec q (lessR q (ga x c) (scl q s r) x)) = ((a ++ b).map (vec q)).map fun v => fun i => v i - v c * vec q (scl q s r) i := by
        rw [List.map_map]
        exact List.map_congr_left fun x hx => vx x hx
      have p1 : Sm ((vec q (scl q s r)) :: (a ++ b).map fun x => vec q (lessR q (ga x c) (scl q s r) x)) (vec q (scl q s r) :: (a ++ b).map (vec q)) := by
        rw [p0]
        exact sm_less _ (fun v => v c) _
      have p2 : Sm (vec q (scl q s r) :: (a ++ b).map (vec q)) (vec q r :: (a ++ b).map (vec q)) := by
        rw [vl]
        exact sm_scale (b := iv q (ga r c)) (by grind) _ _
      have p3 : Sm (vec q r :: (a ++ b).map (vec q)) ((a ++ r :: b).map (vec q)) := sm_perm (by
        have := (List.perm_middle (a := r) (l₁ := a) (l₂ := b)).symm.map (vec q)
        exact this)
      have p4 := sm_app ((p1.trans p2).trans p3) (dn.map (vec q))
      have e5 : (((dn ++ [scl q s r]) ++ (a ++ b).map fun x => lessR q (ga x c) (scl q s r) x).map (vec q)) = dn.map (vec q) ++ (vec q (scl q s r) :: (a ++ b).map fun x => vec q (lessR q (ga x c) (scl q s r) x)) := by
        simp [Function.comp_def]
      have e6 : (dn ++ (a ++ r :: b)).map (vec q) = dn.map (vec q) ++ (a ++ r :: b).map (vec q) := List.map_append
      rw [e6]
      exact e5 ▸ p4
theorem rk_inv {w : Nat} : ∀ {k c : Nat} {dn td dn' td' : List (List Int)}, c + k ≤ w → RkI q w c dn td → Rk q (List.range' c k) dn td dn' td' → RkI q w (c + k) dn' td' ∧ Sm ((dn' ++ td').map (vec q)) ((dn ++ td).map (vec q))
  | 0, c, dn, td, dn', td', _, h, g => by
    obtain ⟨rfl, rfl⟩ := g
    exact ⟨h, Sm.refl _⟩
  | k + 1, c, dn, td, dn', td', hk, h, g => by
    rw [List.range'_succ] at g
    obtain ⟨d, t, g1, g2⟩ := g
    obtain ⟨h1, h2⟩ := rks_inv (by omega) h g1
    obtain ⟨h3, h4⟩ := rk_inv (by omega) h1 g2
    have e : c + (k + 1) = c + 1 + k := by omega
    rw [e]
    exact ⟨h3, h4.trans h2⟩
theorem rk_dim (hF : Fld q) {w : Nat} {rows dn' td' : List (List Int)} (hr : ∀ x ∈ rows, RowP q w x) (g : Rk q (List.range w) [] rows dn' td') : dn'.length = dim w (spn (rows.map (vec q))) := by
  rw [List.range_eq_range'] at g
  obtain ⟨⟨⟨el, e1, e2, e3⟩, h1, h2, h3⟩, h4⟩ := rk_inv (w := w) (dn := []) (by omega) ⟨⟨[], rfl, trivial, fun x hx => nomatch hx⟩, (fun x (hx : x ∈ ([] : List (List Int))) => nomatch hx), hr, fun x _ i hi => absurd hi (Nat.not_lt_zero i)⟩ g
  have z : ∀ x ∈ td', vec q x = zv := fun x hx => by
    funext i
    rcases Nat.lt_or_ge i w with hi | hi
    · exact h3 x hx i (by omega)
    · exact vec_sup (h2 x hx).1 i hi
  have s1 : Sm (dn'.map (vec q)) ((dn' ++ td').map (vec q)) := by
    rw [List.map_append]
    refine sm_of (fun v hv => spn_mem (List.mem_append.mpr (.inl hv))) (fun v hv => ?_)
    rcases List.mem_append.mp hv with hv | hv
    · exact spn_mem hv
    · obtain ⟨x, hx, rfl⟩ := List.mem_map.mp hv
      rw [z x hx]
      exact spn_zero _
  have d1 := dim_sm (w := w) (s1.trans h4)
  rw [List.nil_append] at d1
  rw [← d1, ← e1, ech_dim hF e2 (fun x hx => by have := e3 x hx; omega)]
  have := congrArg List.length e1
  simpa using this.symm
end
end K94
end

section
set_option Elab.async false
set_option linter.all false
/-! The law's lots. -/
namespace K94
open La
def cho {α : Type} (lot : Nat) : List α → List α
  | [] => []
  | u :: us => (if lot % 2 = 1 then [u] else []) ++ cho (lot / 2) us
def sgn {α : Type} (lot : Nat) : List α → Int
  | [] => 1
  | _ :: us => if lot % 2 = 1 then - sgn (lot / 2) us else sgn (lot / 2) us
theorem cho_map {α β : Type} (g : α → β) : ∀ (us : List α) (lot : Nat), (cho lot us).map g = cho lot (us.map g)
  | [], _ => rfl
  | u :: us, lot => by
    show ((if lot % 2 = 1 then [u] else []) ++ cho (lot / 2) us).map g = (if lot % 2 = 1 then [g u] else []) ++ cho (lot / 2) (us.map g)
    rw [List.map_append, cho_map g us]
    split <;> rfl
theorem sgn_map {α β : Type} (g : α → β) : ∀ (us : List α) (lot : Nat), sgn lot (us.map g) = sgn lot us
  | [], _ => rfl
  | u :: us, lot => by
    show (if lot % 2 = 1 then - sgn (lot / 2) (us.map g) else sgn (lot / 2) (us.map g)) = _
    rw [sgn_map g us]
    rfl
theorem cho_mem {α : Type} {x : α} : ∀ {us : List α} {lot : Nat}, x ∈ cho lot us → x ∈ us
  | [], _, h => h
  | u :: us, lot, h => by
    rcases List.mem_append.mp h with h | h
    · split at h
      · simp at h
        simp [h]
      · exact nomatch h
    · exact List.mem_cons_of_mem _ (cho_mem h)
theorem cho_len {α : Type} : ∀ (us : List α) (lot : Nat), (cho lot us).length ≤ us.length
  | [], _ => Nat.le_refl _
  | u :: us, lot => by
    have := cho_len us (lot / 2)
    show ((if lot % 2 = 1 then [u] else []) ++ cho (lot / 2) us).length ≤ us.length + 1
    split <;> simp <;> omega
def sumN (h : Nat → Int) : Nat → Int
  | 0 => 0
  | n + 1 => sumN h n + h n
theorem sumN_two (h : Nat → Int) : ∀ k, sumN h (2 * k) = sumN (fun l => h (2 * l)) k + sumN (fun l => h (2 * l + 1)) k
  | 0 => rfl
  | k + 1 => by
    have e : 2 * (k + 1) = 2 * k + 1 + 1 := by omega
    rw [e]
    show sumN h (2 * k) + h (2 * k) + h (2 * k + 1) = (sumN (fun l => h (2 * l)) k + h (2 * k)) + (sumN (fun l => h (2 * l + 1)) k + h (2 * k + 1))
    rw [sumN_two h k]
    omega
theorem sumN_congr {h g : Nat → Int} (e : ∀ i, h i = g i) (n : Nat) : sumN h n = sumN g n := by rw [funext e]
theorem sumN_neg (h : Nat → Int) : ∀ n, sumN (fun l => - h l) n = - sumN h n
  | 0 => rfl
  | n + 1 => by
    show sumN (fun l => - h l) n + - h n = - (sumN h n + h n)
    rw [sumN_neg h n]
    omega
/-- the numbers found, lot by lot -/
theorem fd_fold (e : Nat) (W : Nat) (ex : Nat → Nat) (sg : Nat → Int) (hx : ∀ l, ex l < W) : ∀ n, ((List.range n).foldl (fun (fd : List Int) l => fd.set (ex l) (ga fd (ex l) + sg l)) (List.replicate W 0)).length = W ∧ ga ((List.range n).foldl (fun (fd : List Int) l => fd.set (ex l) (ga fd (ex l) + sg l)) (List.replicate W 0)) e = sumN (fun l => if ex l = e then sg l else 0) n
  | 0 => ⟨by simp, by
    show ga (List.replicate W 0) e = 0
    unfold ga
    rw [List.getD, List.getElem?_replicate]
    split <;> rfl⟩
  | n + 1 => by
    obtain ⟨h1, h2⟩ := fd_fold e W ex sg hx n
    rw [List.range_succ, List.foldl_append]
    refine ⟨by rw [List.foldl_cons, List.foldl_nil, List.length_set]; exact h1, ?_⟩
    show ga (List.set _ _ _) e = sumN (fun l => if ex l = e then sg l else 0) n + if ex n = e then sg n else 0
    rw [← h2]
    generalize ((List.range n).foldl (fun (fd : List Int) l => fd.set (ex l) (ga fd (ex l) + sg l)) (List.replicate W 0)) = fd at h1 ⊢
    by_cases he : ex n = e
    · subst he
      rw [if_pos rfl]
      conv => lhs; unfold ga
      rw [List.getD, List.getElem?_set_self (by rw [h1]; exact hx n)]
      rfl
    · rw [if_neg he]
      conv => lhs; unfold ga
      rw [List.getD, List.getElem?_set_ne he]
      show ga fd e = _
      omega
section
variable {q : Nat} [NeZero q]
theorem lots_pl {f : List (Vc q) → Int} (hf : La.Inv f) : ∀ (us base : List (Vc q)), sumN (fun l => sgn l us * f (base ++ cho l us)) (2 ^ us.length) = Pl f base us
  | [], base => by
    show (0 : Int) + 1 * f (base ++ []) = f base
    rw [List.append_nil]
    omega
  | u :: us, base => by
    rw [List.length_cons, Nat.pow_succ, Nat.mul_comm, sumN_two]
    have h0 : ∀ l, sgn (2 * l) (u :: us) * f (base ++ cho (2 * l) (u :: us)) = sgn l us * f (base ++ cho l us) := fun l => by
      have e1 : 2 * l % 2 = 0 := by omega
      have e2 : 2 * l / 2 = l := by omega
      show (if 2 * l % 2 = 1 then - sgn (2 * l / 2) us else sgn (2 * l / 2) us) * f (base ++ ((if 2 * l % 2 = 1 then [u] else []) ++ cho (2 * l / 2) us)) = _
      rw [e1, e2]
      rfl
    have h1 : ∀ l, sgn (2 * l + 1) (u :: us) * f (base ++ cho (2 * l + 1) (u :: us)) = - (sgn l us * f ((base ++ [u]) ++ cho l us)) := fun l => by
      have e1 : (2 * l + 1) % 2 = 1 := by omega
      have e2 : (2 * l + 1) / 2 = l := by omega
      show (if (2 * l + 1) % 2 = 1 then - sgn ((2 * l + 1) / 2) us else sgn ((2 * l + 1) / 2) us) * f (base ++ ((if (2 * l + 1) % 2 = 1 then [u] else []) ++ cho ((2 * l + 1) / 2) us)) = _
      rw [e1, e2, if_pos rfl, if_pos rfl, Int.neg_mul, List.append_assoc]
    rw [sumN_congr h0, sumN_congr h1, sumN_neg, lots_pl hf us base, lots_pl hf us (base ++ [u])]
    show _ = Pl f base us - Pl f (u :: base) us
    rw [pl_sm hf (sm_perm (List.perm_append_comm (l₁ := base) (l₂ := [u])))]
    show _ = Pl f base us - Pl f ([u] ++ base) us
    omega
end
/-- without the doubles -/
def ddp (bad : List (List Int)) : List (List Int) := bad.foldl (fun acc x => if x ∈ acc then acc else acc ++ [x]) []
theorem mem_ddp (bad : List (List Int)) (x : List Int) : x ∈ ddp bad ↔ x ∈ bad := by
  have key : ∀ (bad acc : List (List Int)), x ∈ bad.foldl (fun acc x => if x ∈ acc then acc else acc ++ [x]) acc ↔ x ∈ acc ∨ x ∈ bad := by
    intro bad
    induction bad with
    | nil => intro acc; simp
    | cons y bad ih =>
      intro acc
      rw [List.foldl_cons, ih]
      split
      · rename_i hy
        rw [List.mem_cons]
        constructor
        · rintro (h | h)
          · exact .inl h
          · exact .inr (.inr h)
        · rintro (h | rfl | h)
          · exact .inl h
          · exact .inl hy
          · exact .inr h
      · simp [or_assoc]
  have := key bad []
  simpa [ddp] using this
def ex1 (x : List Int) : List Int := x ++ [1]
/-- the numbers that the law finds -/
noncomputable def fdN (w : Nat) (rk : List (List Int) → Nat) (R us : List (List Int)) : List Int := (List.range (2 ^ us.length)).foldl (fun (fd : List Int) l => fd.set (w - rk (R.map ex1 ++ (cho l us).map ex1)) (ga fd (w - rk (R.map ex1 ++ (cho l us).map ex1)) + sgn l us)) (List.replicate (w + 1) 0)
section
variable {q : Nat} [NeZero q]
theorem due_ans {w : Nat} (R B : List (List Int)) (rk : List (List Int) → Nat) (hrk : ∀ l, rk (R.map ex1 ++ (cho l (ddp B)).map ex1) = dim w (spn ((R.map ex1 ++ (cho l (ddp B)).map ex1).map (vec q)))) (e : Int) (he : 0 ≤ e) : ga (fdN w rk R (ddp B)) e.toNat = PP q w (R.map ex1) (B.map ex1) e := by
  have h := (fd_fold e.toNat (w + 1) (fun l => w - rk (R.map ex1 ++ (cho l (ddp B)).map ex1)) (fun l => sgn l (ddp B)) (fun l => by omega) (2 ^ (ddp B).length)).2
  unfold fdN
  rw [h]
  unfold PP
  have hs : Pl (fE q w e) ((R.map ex1).map (vec q)) ((B.map ex1).map (vec q)) = Pl (fE q w e) ((R.map ex1).map (vec q)) (((ddp B).map ex1).map (vec q)) := by
    refine pl_set (fE_inv w e) fun r => ?_
    rw [List.map_map, List.map_map]
    simp only [List.mem_map, mem_ddp]
  rw [hs, ← lots_pl (fE_inv w e)]
  have hl : (((ddp B).map ex1).map (vec q)).length = (ddp B).length := by simp
  rw [hl]
  refine sumN_congr (fun l => ?_) _
  rw [hrk, sgn_map, sgn_map, ← cho_map, ← cho_map, List.map_append]
  unfold fE
  have hd := dim_le (q := q) w (spn ((R.map ex1).map (vec q) ++ ((cho l (ddp B)).map ex1).map (vec q)))
  by_cases hz : w - dim w (spn ((R.map ex1).map (vec q) ++ ((cho l (ddp B)).map ex1).map (vec q))) = e.toNat
  · rw [if_pos hz, if_pos (by omega)]
    omega
  · rw [if_neg hz, if_neg (by omega)]
    omega
end
end K94
end

section
set_option Elab.async false
set_option linter.all false
/-! The forms of the law. -/
namespace K94
open La
theorem fld_of {p : Int} (hp : Pr p) : ∃ q : Nat, ∃ _ : NeZero q, (q : Int) = p ∧ Fld q ∧ 1 < q := by
  rcases hp with rfl | rfl | rfl | rfl
  · exact ⟨2, ⟨by decide⟩, rfl, by unfold Fld; decide, by decide⟩
  · exact ⟨3, ⟨by decide⟩, rfl, by unfold Fld; decide, by decide⟩
  · exact ⟨5, ⟨by decide⟩, rfl, by unfold Fld; decide, by decide⟩
  · exact ⟨7, ⟨by decide⟩, rfl, by unfold Fld; decide, by decide⟩
def mixL (p : Int) (one other : List Int) (c : Int) : List Int := (List.range one.length).map fun i => ((1 - c) * ga one i + c * ga other i) % p
def rdL (p : Int) (fa en x : List Int) : List Int := (List.range x.length).map fun i => (ga fa i * ga x i + ga en i) % p
theorem mix_row {p : Int} (hp : 0 < p) {n : Nat} {one other : List Int} {c : Int} (h : one.length = n) : RowP p n (mixL p one other c) := by
  refine ⟨by simp [mixL, h], fun x hx => ?_⟩
  obtain ⟨i, _, rfl⟩ := List.mem_map.mp hx
  exact ⟨Int.emod_nonneg _ (by omega), Int.emod_lt_of_pos _ hp⟩
theorem rd_row {p : Int} (hp : 0 < p) {n : Nat} {fa en x : List Int} (h : x.length = n) : RowP p n (rdL p fa en x) := by
  refine ⟨by simp [rdL, h], fun x hx => ?_⟩
  obtain ⟨i, _, rfl⟩ := List.mem_map.mp hx
  exact ⟨Int.emod_nonneg _ (by omega), Int.emod_lt_of_pos _ hp⟩
theorem ex1_row {p : Int} (hp : 1 < p) {n : Nat} {x : List Int} (h : RowP p n x) : RowP p (n + 1) (ex1 x) := by
  refine ⟨by simp [ex1, h.1], fun y hy => ?_⟩
  rcases List.mem_append.mp hy with hy | hy
  · exact h.2 y hy
  · obtain rfl := List.mem_singleton.mp hy
    omega
theorem ga_ex1 {n : Nat} {x : List Int} (h : x.length = n) (i : Nat) : ga (ex1 x) i = if i < n then ga x i else if i = n then 1 else 0 := by
  subst h
  unfold ga ex1
  rw [List.getD, List.getD]
  by_cases h1 : i < x.length
  · rw [if_pos h1, List.getElem?_append_left h1]
  · rw [if_neg h1, List.getElem?_append_right (by omega)]
    by_cases h2 : i = x.length
    · rw [if_pos h2, h2, Nat.sub_self]
      rfl
    · rw [if_neg h2, List.getElem?_eq_none (by simp; omega)]
      rfl
theorem ga_rng (n : Nat) (f : Nat → Int) {i : Nat} (h : i < n) : ga ((List.range n).map f) i = f i := by
  unfold ga
  rw [List.getD, List.getElem?_map, List.getElem?_range h]
  rfl
section
variable {q : Nat} [NeZero q]
theorem ex1_inj {n : Nat} {x y : List Int} (hx : RowP q n x) (hy : RowP q n y) (h : vec q (ex1 x) = vec q (ex1 y)) : x = y := by
  refine List.ext_getElem (by rw [hx.1, hy.1]) fun i h1 h2 => ?_
  have e := congrFun h i
  rw [vec_ga, vec_ga, ga_ex1 hx.1, ga_ex1 hy.1, if_pos (by rw [← hx.1]; exact h1), if_pos (by rw [← hx.1]; exact h1)] at e
  have := iv_eq (ga_mem hx (by rw [← hx.1]; exact h1)) (ga_mem hy (by rw [← hy.1]; exact h2)) e
  unfold ga at this
  simpa [List.getD, h1, h2] using this
theorem vec_mix {n : Nat} (hq : 1 < q) {one other : List Int} (h1 : one.length = n) (h2 : other.length = n) (c : Int) : vec q (ex1 (mixL q one other c)) = fun i => (1 - iv q c) * vec q (ex1 one) i + iv q c * vec q (ex1 other) i := by
  funext i
  have hm : (mixL q one other c).length = n := by simp [mixL, h1]
  have e1 : iv q 1 = 1 := iv_one hq
  rw [vec_ga, vec_ga, vec_ga, ga_ex1 hm, ga_ex1 h1, ga_ex1 h2]
  by_cases hi : i < n
  · simp only [if_pos hi]
    unfold mixL
    rw [ga_rng _ _ (by omega), iv_mod, iv_add, iv_mul, iv_mul, iv_sub, e1]
  · simp only [if_neg hi]
    by_cases hi2 : i = n
    · simp only [if_pos hi2, e1]
      grind
    · simp only [if_neg hi2, iv_zero]
      grind
/-- a mix in the span -/
theorem mix_span {n : Nat} (hq : 1 < q) {one other : List Int} (h1 : one.length = n) (h2 : other.length = n) (c : Int) {rs : List (Vc q)} (g1 : spn rs (vec q (ex1 one))) (g2 : spn rs (vec q (ex1 other))) : spn rs (vec q (ex1 (mixL q one other c))) := by
  have g := spn_lin (a := 1 - iv q c) g1 (spn_smul (a := iv q c) g2)
  have e : lin (1 - iv q c) (vec q (ex1 one)) (fun i => iv q c * vec q (ex1 other) i) = vec q (ex1 (mixL q one other c)) := by
    rw [vec_mix hq h1 h2]
    rfl
  rw [e] at g
  exact g
/-- .. and back: the other -/
theorem mix_other (hF : Fld q) {n : Nat} (hq : 1 < q) {one other : List Int} (h1 : one.length = n) (h2 : other.length = n) {c : Int} (hc : iv q c ≠ 0) {rs : List (Vc q)} (g1 : spn rs (vec q (ex1 one))) (g2 : spn rs (vec q (ex1 (mixL q one other c)))) : spn rs (vec q (ex1 other)) := by
  obtain ⟨d, hd⟩ := hF _ hc
  have g := spn_smul (a := d) (spn_lin (a := - (1 - iv q c)) g1 g2)
  have e : (fun i => d * lin (- (1 - iv q c)) (vec q (ex1 one)) (vec q (ex1 (mixL q one other c))) i) = vec q (ex1 other) := by
    rw [vec_mix hq h1 h2]
    funext i
    simp only [lin]
    grind
  rw [e] at g
  exact g
theorem mix_one (hF : Fld q) {n : Nat} (hq : 1 < q) {one other : List Int} (h1 : one.length = n) (h2 : other.length = n) {c : Int} (hc : 1 - iv q c ≠ 0) {rs : List (Vc q)} (g1 : spn rs (vec q (ex1 other))) (g2 : spn rs (vec q (ex1 (mixL q one other c)))) : spn rs (vec q (ex1 one)) := by
  obtain ⟨d, hd⟩ := hF _ hc
  have g := spn_smul (a := d) (spn_lin (a := - (iv q c)) g1 g2)
  have e : (fun i => d * lin (- (iv q c)) (vec q (ex1 other)) (vec q (ex1 (mixL q one other c))) i) = vec q (ex1 one) := by
    rw [vec_mix hq h1 h2]
    funext i
    simp only [lin]
    grind
  rw [e] at g
  exact g
/-- the numbers read on -/
def rdM (q : Nat) [NeZero q] (n : Nat) (fa en : List Int) (v : Vc q) : Vc q := fun i => if i < n then iv q (ga fa i) * v i + iv q (ga en i) * v n else v i
theorem rdM_lin (hF : Fld q) {n : Nat} {fa en : List Int} (hfa : ∀ i, i < n → iv q (ga fa i) ≠ 0) : Lin (rdM q n fa en) where
  lin := fun c u v => by
    funext i
    unfold rdM lin
    by_cases hi : i < n
    · simp only [if_pos hi]
      grind
    · simp only [if_neg hi]
  zero := by
    funext i
    unfold rdM zv
    by_cases hi : i < n
    · simp only [if_pos hi]
      grind
    · simp only [if_neg hi]
  inj := fun u v h => by
    have hn : u n = v n := by
      have := congrFun h n
      unfold rdM at this
      simpa using this
    funext i
    have hi := congrFun h i
    unfold rdM at hi
    by_cases hin : i < n
    · simp only [if_pos hin, hn] at hi
      obtain ⟨d, hd⟩ := hF _ (hfa i hin)
      have : iv q (ga fa i) * u i = iv q (ga fa i) * v i := by grind
      grind
    · simpa only [if_neg hin] using hi
theorem vec_rd {n : Nat} (hq : 1 < q) {fa en x : List Int} (h : x.length = n) : vec q (ex1 (rdL q fa en x)) = rdM q n fa en (vec q (ex1 x)) := by
  funext i
  have hm : (rdL q fa en x).length = n := by simp [rdL, h]
  have e1 : iv q 1 = 1 := iv_one hq
  unfold rdM
  rw [vec_ga, vec_ga, vec_ga, ga_ex1 hm, ga_ex1 h, ga_ex1 h]
  by_cases hi : i < n
  · simp only [if_pos hi, Nat.lt_irrefl, if_false, if_true]
    unfold rdL
    rw [ga_rng _ _ (by omega), iv_mod, iv_add, iv_mul, e1]
    grind
  · simp only [if_neg hi]
theorem rd_inj (hF : Fld q) {n : Nat} (hq : 1 < q) {fa en x y : List Int} (hfa : ∀ i, i < n → iv q (ga fa i) ≠ 0) (hx : RowP q n x) (hy : RowP q n y) (h : rdL q fa en x = rdL q fa en y) : x = y := by
  refine ex1_inj hx hy ((rdM_lin (n := n) (en := en) hF hfa).inj _ _ ?_)
  rw [← vec_rd hq hx.1, ← vec_rd hq hy.1, h]
/-- the polynomial of points -/
noncomputable def PQ (q : Nat) [NeZero q] (n : Nat) (R B : List (List Int)) (e : Int) : Int := PP q (n + 1) (R.map ex1) (B.map ex1) e
theorem pq_set {n : Nat} {R B B' : List (List Int)} (h : ∀ x, x ∈ B' ↔ x ∈ B) (e : Int) : PQ q n R B' e = PQ q n R B e := by
  unfold PQ PP
  refine pl_set (fE_inv _ e) fun r => ?_
  simp only [List.mem_map, h]
theorem pq_sm {n : Nat} {R R' B : List (List Int)} (h : Sm ((R'.map ex1).map (vec q)) ((R.map ex1).map (vec q))) (e : Int) : PQ q n R' B e = PQ q n R B e := pl_sm (fE_inv _ e) h
theorem mem_vec {x : List Int} {R : List (List Int)} (h : x ∈ R) : spn ((R.map ex1).map (vec q)) (vec q (ex1 x)) := spn_mem (List.mem_map.mpr ⟨ex1 x, List.mem_map.mpr ⟨x, h, rfl⟩, rfl⟩)
theorem pq_beside (hF : Fld q) {n : Nat} (hq : 1 < q) {R B : List (List Int)} {centre chosen : List Int} {c : Int} (hc : iv q c ≠ 0) (h1 : centre ∈ R) (h2 : chosen ∈ B) (l1 : centre.length = n) (l2 : chosen.length = n) (e : Int) : PQ q n R ([mixL q centre chosen c] ++ B) e = PQ q n R B e := by
  unfold PQ PP
  refine pl_beside (fE_inv _ e) (b := vec q (ex1 chosen)) (List.mem_map.mpr ⟨ex1 chosen, List.mem_map.mpr ⟨chosen, h2, rfl⟩, rfl⟩) ?_
  exact mix_other hF hq l1 l2 hc (spn_tail (mem_vec h1)) (spn_head _ _)
theorem pq_mixed {n : Nat} (hq : 1 < q) {R B : List (List Int)} {one other : List Int} {c : Int} (h1 : one ∈ R) (h2 : other ∈ R) (l1 : one.length = n) (l2 : other.length = n) (e : Int) : PQ q n ([mixL q one other c] ++ R) B e = PQ q n R B e := by
  refine pq_sm ?_ e
  exact sm_in (mix_span hq l1 l2 c (mem_vec h1) (mem_vec h2))
theorem pq_moved (hF : Fld q) {n : Nat} (hq : 1 < q) {R B : List (List Int)} {one other : List Int} {c : Int} (hc : 1 - iv q c ≠ 0) (h2 : other ∈ one :: R) (l1 : one.length = n) (l2 : other.length = n) (hR : other ∈ R ∨ other = one) (e : Int) : PQ q n ([mixL q one other c] ++ R) B e = PQ q n (one :: R) B e := by
  refine pq_sm ?_ e
  have t1 : spn (((one :: R).map ex1).map (vec q)) (vec q (ex1 (mixL q one other c))) := mix_span hq l1 l2 c (mem_vec (by simp)) (mem_vec h2)
  have t2 : spn ((([mixL q one other c] ++ R).map ex1).map (vec q)) (vec q (ex1 one)) := by
    rcases hR with hR | hR
    · exact mix_one hF hq l1 l2 hc (mem_vec (by simp [hR])) (mem_vec (by simp))
    · have g : spn ((([mixL q one other c] ++ R).map ex1).map (vec q)) (vec q (ex1 (mixL q one other c))) := mem_vec (by simp)
      have e : vec q (ex1 (mixL q one other c)) = vec q (ex1 one) := by
        rw [vec_mix hq l1 l2, hR]
        funext i
        grind
      rw [e] at g
      exact g
  refine sm_of (fun v hv => ?_) (fun v hv => ?_)
  · rcases List.mem_cons.mp hv with rfl | hv
    · exact t1
    · exact spn_tail (spn_mem hv)
  · rcases List.mem_cons.mp hv with rfl | hv
    · exact t2
    · exact spn_tail (spn_mem hv)
theorem pq_rd (hF : Fld q) {n : Nat} (hq : 1 < q) {R B : List (List Int)} {fa en : List Int} (hfa : ∀ i, i < n → iv q (ga fa i) ≠ 0) (hR : ∀ x ∈ R, x.length = n) (hB : ∀ x ∈ B, x.length = n) (e : Int) : PQ q n (R.map (rdL q fa en)) (B.map (rdL q fa en)) e = PQ q n R B e := by
  have hL := rdM_lin (n := n) (en := en) hF hfa
  have mp : ∀ X : List (List Int), (∀ x ∈ X, x.length = n) → ((X.map (rdL q fa en)).map ex1).map (vec q) = ((X.map ex1).map (vec q)).map (rdM q n fa en) := fun X hX => by
    simp only [List.map_map]
    exact List.map_congr_left fun x hx => vec_rd hq (hX x hx)
  unfold PQ PP
  rw [mp R hR, mp B hB]
  refine pl_map fun b hb => ?_
  have sb : ∀ r ∈ b, Sup (n + 1) r := fun r hr => by
    have : ∃ x, x.length = n ∧ r = vec q (ex1 x) := by
      rcases hb r hr with h | h
      · obtain ⟨y, hy, rfl⟩ := List.mem_map.mp h
        obtain ⟨x, hx, rfl⟩ := List.mem_map.mp hy
        exact ⟨x, hR x hx, rfl⟩
      · obtain ⟨y, hy, rfl⟩ := List.mem_map.mp h
        obtain ⟨x, hx, rfl⟩ := List.mem_map.mp hy
        exact ⟨x, hB x hx, rfl⟩
    obtain ⟨x, hx, rfl⟩ := this
    exact vec_sup (by simp [ex1, hx])
  have sb2 : ∀ r ∈ b.map (rdM q n fa en), Sup (n + 1) r := fun r hr => by
    obtain ⟨v, hv, rfl⟩ := List.mem_map.mp hr
    intro i hi
    unfold rdM
    rw [if_neg (by omega)]
    exact sb v hv i hi
  unfold fE
  rw [dim_inc hF sb, dim_inc hF sb2, inc_map hL]
/-- a point in the hull of the right ones -/
theorem not_hull {n : Nat} {R : List (List Int)} {b : List Int} (h : dim (n + 1) (spn (((R ++ [b]).map ex1).map (vec q))) ≠ dim (n + 1) (spn ((R.map ex1).map (vec q)))) : ¬ spn ((R.map ex1).map (vec q)) (vec q (ex1 b)) := fun hs => by
  apply h
  apply dim_sm
  rw [List.map_append, List.map_append]
  exact (sm_perm (List.perm_append_comm (l₁ := (R.map ex1).map (vec q)) (l₂ := [vec q (ex1 b)]))).trans (sm_in hs)
end
end K94
end

section
set_option Elab.async false
set_option linter.all false
set_option maxRecDepth 100000
set_option maxHeartbeats 4000000
namespace K94
open PySem PySem.Spec PyProof.Rows Dp
theorem lenG (k : Nat) (h : k ≤ 40) : r63 (k : Int) = true := by
  unfold r63
  rw [Bool.and_eq_true, decide_eq_true_eq, decide_eq_true_eq]
  omega
theorem leno_sp (n : Nat) (p : Int) (w : Nat) (rl : RL) (h : rl.length ≤ 40) : r63 (rl.length : Int) = true := lenG _ h
theorem dget2 (e : Int) (f : List (Int × Int)) : dgetV (.dk (f.map fun q => (.inl q.1 : L2.Key)) (f.map fun q => D.int q.2)) (.int e) (.int 0) = some (.int (co f e)) := by
  show some ((valD (f.map fun q => (.inl q.1 : L2.Key)) (f.map fun q => D.int q.2) (.inl e)).getD (.int 0)) = _
  rw [dget_dk]
@[simp] theorem isd_dk (ks : List L2.Key) (ds : List D) : isDct (.dk ks ds) = true := rfl
@[simp] theorem isd_dt (ks : List (List L2.Key)) (ds : List D) : isDct (.dt ks ds) = true := rfl
theorem t_23c (n : Nat) (p : Int) (w : Nat) (m : Mu) (x1 x2 : SV) (rl0 : RL) (q : RL × Int) (f : List (Int × Int)) (a b c : Option SV) (hf : f.length < sizeLine) (gl : r63 (q.1.length : Int) = true) : bodyF (callN G (n + 5)) (.tp [6, 7]) l_23_2 (stD p w q) [some (.val (SpD p w rl0)), some x1, some x2, none, some (.own (dkC f)), none, a, b, c] m = .nx [some (.val (SpD p w rl0)), some x1, some x2, none, some (.own (dkC (adK ((w : Int) - q.1.length) (co f ((w : Int) - q.1.length) + q.2) f))), none, some (.val (SpD p w q.1)), some (.val (.int q.2)), some (.val (.int ((w : Int) - q.1.length)))] m := by
  have c26 : callN G (n + 5) 26 [SpD p w q.1] m = .ok (.val (.int q.1.length)) m := c_26 (n + 4) p w q.1 m
  simp -implicitDefEqProofs [↓evS_for, ↓evE_lc, evSs, evS, evE, evEs, evP, evPs, evI, evB, evBor, evBand, evO, evOB, evAnd, bindT, wipeS, bodyF, l_23_2, fl0, g2, in2, lk26, c26, gl, dget2, isO, chgO, opSet, hf, put_dk, put_dd]
  exact put_dk _ _ _
theorem forL_ex {α β : Type} {fg : List Nat} {F : D → Sl → Mu → SR} (f : α → D) (st : β → Sl) (mu : β → Mu) (I : List α → β → Prop) (h : ∀ x xs b, I (x :: xs) b → ∃ b', I xs b' ∧ ∃ s1, F (f x) (st b) (mu b) = .nx s1 (mu b') ∧ wipeS s1 fg = st b') : ∀ (xs : List α) (b : β), I xs b → ∃ b', I [] b' ∧ forL fg F (xs.map f) (st b) (mu b) = .nx (st b') (mu b')
  | [], b, hb => ⟨b, hb, rfl⟩
  | x :: xs, b, hb => by
    obtain ⟨b1, h1, s1, h2, h3⟩ := h x xs b hb
    obtain ⟨b2, h4, h5⟩ := forL_ex f st mu I h xs b1 h1
    refine ⟨b2, h4, ?_⟩
    rw [List.map_cons]
    unfold forL
    rw [h2]
    dsimp only
    rw [h3]
    exact h5
theorem adK_len (e v : Int) (f : List (Int × Int)) : (adK e v f).length ≤ f.length + 1 := by
  unfold adK
  split <;> simp
theorem l_23c (n : Nat) (p : Int) (w : Nat) (m : Mu) (x1 x2 : SV) (rl0 : RL) (sts : List (RL × Int)) (a b c : Option SV) (hl : sts.length ≤ 1100) (h0 : ∀ q ∈ sts, q.1.length ≤ 40) :
    ∃ a' b' c', forL [] (bodyF (callN G (n + 5)) (.tp [6, 7]) l_23_2) (sts.map (stD p w)) [some (.val (SpD p w rl0)), some x1, some x2, none, some (.own (dkC [])), none, a, b, c] m = .nx [some (.val (SpD p w rl0)), some x1, some x2, none, some (.own (dkC (fdS w sts []))), none, a', b', c'] m := by
  obtain ⟨⟨f', a', b', c'⟩, h1, h2⟩ := forL_ex (fg := []) (F := bodyF (callN G (n + 5)) (.tp [6, 7]) l_23_2) (stD p w) (fun x : List (Int × Int) × Option SV × Option SV × Option SV => [some (.val (SpD p w rl0)), some x1, some x2, none, some (.own (dkC x.1)), none, x.2.1, x.2.2.1, x.2.2.2]) (fun _ => m) (fun xs x => fdS w xs x.1 = fdS w sts [] ∧ x.1.length + xs.length ≤ 1100 ∧ ∀ q ∈ xs, q.1.length ≤ 40)
    (fun q xs x hx => by
      obtain ⟨g1, g2, g3⟩ := hx
      rw [List.length_cons] at g2
      have hf : x.1.length < sizeLine := szl (n := x.1.length + 1) (by omega)
      have ha := adK_len ((w : Int) - q.1.length) (co x.1 ((w : Int) - q.1.length) + q.2) x.1
      exact ⟨(adK ((w : Int) - q.1.length) (co x.1 ((w : Int) - q.1.length) + q.2) x.1, some (.val (SpD p w q.1)), some (.val (.int q.2)), some (.val (.int ((w : Int) - q.1.length)))), ⟨g1, Nat.le_trans (Nat.add_le_add_right ha _) (by omega), fun r hr => g3 r (by simp [hr])⟩, _, t_23c n p w m x1 x2 rl0 q x.1 x.2.1 x.2.2.1 x.2.2.2 hf (lenG q.1.length (g3 q (by simp))), rfl⟩)
    sts ([], a, b, c) ⟨rfl, by simpa using hl, h0⟩
  refine ⟨a', b', c', ?_⟩
  have e : fdS w sts [] = f' := h1.1.symm
  rw [e]
  exact h2
theorem c_23 (n : Nat) (p : Int) (hp : Pr p) (w : Nat) (hw : w ≤ 100) (m : Mu) (rl : RL) (hr : RowsP p w rl) (hl : rl.length ≤ 20) (ps : List (List Int)) (h : ∀ r ∈ ps, RowP p w r) (h8 : ps.length ≤ 10) :
    ∃ sts, Stn p ps [(rl, 1)] sts ∧ ((fdS w sts []).length ≤ 60 → callN G (n + 6) 23 [SpD p w rl, .lst (ps.map pt)] m = .ok (.val (.tup ((termsF (fdS w sts [])).map prD))) m) := by
  have hpow : 2 ^ ps.length ≤ 1024 := Nat.le_trans (Nat.pow_le_pow_right (by decide) h8) (by decide)
  obtain ⟨sts, a, b, q1, q2, q3, q4⟩ := l_23b n p hp w hw m (.val (SpD p w rl)) (.val (.lst (ps.map pt))) ps [(rl, 1)] 20 none none h (fun q hq => by
    obtain rfl : q = _ := List.mem_singleton.mp hq
    exact ⟨hr, hl⟩) (by omega) (by simp; omega)
  obtain ⟨a', b', c', q5⟩ := l_23c n p w m (.val (.lst (ps.map pt))) (.val (.lst (sts.map (stD p w)))) rl sts a b none (by omega) (fun q hq => Nat.le_trans (q2 q hq).2 (by omega))
  refine ⟨sts, q1, fun h60 => ?_⟩
  have z1 : (1 : Nat) ≤ sizeLine := szl (by decide)
  have z2 : (2 : Nat) ≤ sizeLine := szl (by decide)
  have ks := keysI_dk (fdS w sts [])
  have h64 : (fdS w sts []).length < 64 := by omega
  have ht : termsF (fdS w sts []) = ((sortI ((fdS w sts []).map (·.1))).reverse.filter fun e => decide (co (fdS w sts []) e ≠ 0)).map fun e => (e, co (fdS w sts []) e) := rfl
  rw [ht]
  generalize fdS w sts [] = f at *
  have lk := lcL_filterf (m := m) (F := lcF (callN G (n + 5)) [some (.val (SpD p w rl)), some (.val (.lst (ps.map pt))), some (.val (.lst (sts.map (stD p w)))), none, some (.own (dkC f)), none, a', b', none] (.nm 8) (.some (.cmp .ne (.e (.idx (.sl 4) (.var 8))) (.e (.int 0)))) (.tup (.cons (.var 8) (.cons (.idx (.sl 4) (.var 8)) .nil)))) (fun e => decide (co f e ≠ 0)) D.int (fun e => prD (e, co f e)) (sortI (f.map (·.1))).reverse [] (by simp [len_sort]; omega) (fun e he => by
    have ix := coD e f ((mem_sort e _).mp (List.mem_reverse.mp he)) m
    by_cases hz : co f e = 0 <;> simp -implicitDefEqProofs [↓evS_for, ↓evE_lc, evSs, evS, evE, evEs, evP, evPs, evI, evB, evBor, evBand, evO, evOB, evAnd, bindT, wipeS, lcF, ix, hz, z2])
  have sf : opF .sortedR [.dk (f.map fun q => .inl q.1) (f.map fun q => D.int q.2)] m = .ok (.own (.lst ((sortI (f.map (·.1))).reverse.map .int))) m := by
    show (match keysI (f.map fun q => .inl q.1) with | some l => guardR (decide (l.length < 64)) (R.ok (SV.own (.lst ((sortI l).reverse.map .int))) m) | none => .bad) = _
    rw [ks]
    dsimp only
    rw [List.length_map, decide_eq_true h64]
    rfl
  simp only [List.map_cons, List.map_nil] at q4
  have q5' : forL [] (bodyF (callN G (n + 5)) (.tp [6, 7]) l_23_2) (sts.map (stD p w)) [some (.val (SpD p w rl)), some (.val (.lst (ps.map pt))), some (.val (.lst (sts.map (stD p w)))), none, some (.own (.dk [] [])), none, a, b, none] m = .nx [some (.val (SpD p w rl)), some (.val (.lst (ps.map pt))), some (.val (.lst (sts.map (stD p w)))), none, some (.own (dkC f)), none, a', b', c'] m := q5
  rw [o_23]
  simp only [List.nil_append] at lk
  rw [List.map_reverse] at lk
  simp -implicitDefEqProofs [↓evS_for, ↓evE_lc, evSs, evS, evE, evEs, evP, evPs, evI, evB, evBor, evBand, evO, evOB, evAnd, bindT, wipeS, b_23, z1, z2, q4, q5', sf, lk]
end K94
end

section
set_option Elab.async false
set_option linter.all false
set_option maxRecDepth 100000
set_option maxHeartbeats 4000000
namespace K94
open PySem PySem.Spec PyProof.Rows Dp
theorem b_mulL {i j : Int} {m : Mu} (h : -1000000 ≤ i) (h2 : i ≤ 1000000) : opB .mul (.int i) (.int j) m = .ok (.val (.int (i * j))) m := b_mul (.inl ⟨by omega, by omega⟩)
theorem tr_lst (ds : List D) : truthD (.lst ds) = some (!ds.isEmpty) := rfl
theorem ix_pl {R : List (List Int)} {i : Nat} {r : List Int} {m : Mu} (h : R[i]? = some r) : opIx (pl R) (.int (i : Nat)) m = .ok (.val (pt r)) m := ix_lst (by omega) (by simp [h])
theorem c_11 (n : Nat) (p : Int) (hp : Pr p) (w : Nat) (hw : w ≤ 90) (m : Mu) (ps : List (List Int)) (r0 : List Int) (h0 : ps[0]? = some r0) (hl : ps.length ≤ 50) (h : ∀ l ∈ ps, RowP p w l) : callN G (n + 3) 11 [.int p, pl ps] m = .ok (.own (.lst (ps.map pt))) m := by
  rw [o_11]
  have c12 := c_12p n p hp m
  have i0 : opIx (pl ps) (.int 0) m = .ok (.val (pt r0)) m := ix_pl (i := 0) h0
  have hr0 := (h r0 (List.mem_of_getElem? h0)).1
  have hw9 : ¬ ((90 : Int) < (w : Int)) := by omega
  have hne : (ps.map pt).isEmpty = false := by
    cases ps with
    | nil => cases h0
    | cons => rfl
  have key := forL_runf (m := m) (fg := [2]) (F := bodyF (callN G (n + 2)) (.tp [2, 3]) l_11_0) (fun q : Nat × List Int => D.tup [.int (q.1 : Nat), pt q.2]) (fun b : Option SV => [some (.val (.int p)), some (.val (pl ps)), none, b]) (fun _ q => some (.val (pt q.2))) (fun _ => True) ((List.range ps.length).zip ps) none trivial (fun b q hq _ => by
    have c := c_14 n p w q.2 (h q.2 (List.of_mem_zip hq).2) m
    refine ⟨trivial, _, by simp -implicitDefEqProofs [↓evS_for, ↓evE_lc, evSs, evS, evE, evEs, evP, evPs, evI, evB, evBor, evBand, evO, evOB, evAnd, bindT, wipeS, bodyF, l_11_0, i0, hr0, c]; rfl, rfl⟩)
  have lk := lcL_mapf (m := m) (F := lcF (callN G (n + 2)) [some (.val (.int p)), some (.val (pl ps)), none, none] (.nm 3) .none (.bif .tuple (.cons (.e (.var 3)) .nil))) pt pt ps [] (by simp; omega) (fun y hy => by simp -implicitDefEqProofs [↓evS_for, ↓evE_lc, evSs, evS, evE, evEs, evP, evPs, evI, evB, evBor, evBand, evO, evOB, evAnd, bindT, wipeS, lcF])
  have en := enum_map pt ps
  rw [List.length_map] at en
  simp -implicitDefEqProofs [↓evS_for, ↓evE_lc, evSs, evS, evE, evEs, evP, evPs, evI, evB, evBor, evBand, evO, evOB, evAnd, bindT, wipeS, b_11, c12, isis_lst, isis_tup, tr_lst, hne, i0, hr0, hw9, en, key, lk]
theorem c_15 (n : Nat) (p : Int) (w : Nat) (m : Mu) (R : List (List Int)) (r0 : List Int) (h0 : R[0]? = some r0) (hr0 : r0.length = w) (B : List (List Int)) (hB : ∀ l ∈ B, RowP p w l ∧ l ∉ R) (hl : B.length ≤ 50) : callN G (n + 3) 15 [.int p, pl R, pl B] m = .ok (.own (.lst (B.map pt))) m := by
  rw [o_15]
  have i0 : opIx (pl R) (.int 0) m = .ok (.val (pt r0)) m := ix_pl (i := 0) h0
  have key := forL_runf (m := m) (fg := [3]) (F := bodyF (callN G (n + 2)) (.tp [3, 4]) l_15_0) (fun q : Nat × List Int => D.tup [.int (q.1 : Nat), pt q.2]) (fun b : Option SV => [some (.val (.int p)), some (.val (pl R)), some (.val (pl B)), none, b]) (fun _ q => some (.val (pt q.2))) (fun _ => True) ((List.range B.length).zip B) none trivial (fun b q hq _ => by
    have hb := hB q.2 (List.of_mem_zip hq).2
    have c := c_14 n p w q.2 hb.1 m
    have hn := hb.2
    refine ⟨trivial, _, by simp -implicitDefEqProofs [↓evS_for, ↓evE_lc, evSs, evS, evE, evEs, evP, evPs, evI, evB, evBor, evBand, evO, evOB, evAnd, bindT, wipeS, bodyF, l_15_0, i0, hr0, c, hn]; rfl, rfl⟩)
  have lk := lcL_mapf (m := m) (F := lcF (callN G (n + 2)) [some (.val (.int p)), some (.val (pl R)), some (.val (pl B)), none, none] (.nm 4) .none (.bif .tuple (.cons (.e (.var 4)) .nil))) pt pt B [] (by simp; omega) (fun y hy => by simp -implicitDefEqProofs [↓evS_for, ↓evE_lc, evSs, evS, evE, evEs, evP, evPs, evI, evB, evBor, evBand, evO, evOB, evAnd, bindT, wipeS, lcF])
  have en := enum_map pt B
  rw [List.length_map] at en
  simp -implicitDefEqProofs [↓evS_for, ↓evE_lc, evSs, evS, evE, evEs, evP, evPs, evI, evB, evBor, evBand, evO, evOB, evAnd, bindT, wipeS, b_15, isis_lst, en, key, lk]
def valL (p : Int) (k : Nat) (l : List (Int × Int)) : Int := l.foldl (fun t q => t + q.2 * p ^ (k * q.1.toNat)) 0
theorem c_30 (n : Nat) (p : Int) (hp : Pr p) (k : Nat) (hk : k ≤ 6) (m : Mu) (l : List (Int × Int)) (h : ∀ q ∈ l, (0 ≤ q.1 ∧ q.1 ≤ 20) ∧ (-5000 ≤ q.2 ∧ q.2 ≤ 5000)) : callN G (n + 2) 30 [.int p, .tup (l.map prD), .int (k : Nat)] m = .ok (.val (.int (valL p k l))) m := by
  rw [o_30]
  have key := forL_runf (m := m) (fg := [4, 5]) (F := bodyF (callN G (n + 1)) (.tp [4, 5]) l_30_0) prD (fun t : Int => [some (.val (.int p)), some (.val (.tup (l.map prD))), some (.val (.int (k : Nat))), some (.val (.int t)), none, none]) (fun t q => t + q.2 * p ^ (k * q.1.toNat)) (fun _ => True) l 0 trivial (fun t q hq _ => by
    obtain ⟨⟨h1, h2⟩, h3, h4⟩ := h q hq
    have hp7 := hp.pos
    obtain ⟨e, he⟩ := Int.eq_ofNat_of_zero_le h1
    have he' : q.1.toNat = e := by omega
    have b1 := b_mulS (i := (k : Int)) (j := q.1) (m := m) (by omega) (by omega)
    have hke : k * e ≤ 1000 := Nat.le_trans (Nat.mul_le_mul hk (by omega : e ≤ 20)) (by decide)
    have c := c_31 n p (by omega) (k * e) hke m
    have b2 := b_mulL (i := q.2) (j := p ^ (k * e)) (m := m) (by omega) (by omega)
    rw [Int.natCast_mul, ← he] at c
    refine ⟨trivial, _, by simp -implicitDefEqProofs [↓evS_for, ↓evE_lc, evSs, evS, evE, evEs, evP, evPs, evI, evB, evBor, evBand, evO, evOB, evAnd, bindT, wipeS, bodyF, l_30_0, b1, c, b2]; rfl, ?_⟩
    simp only [wipeS, he']
    rfl)
  simp -implicitDefEqProofs [↓evS_for, ↓evE_lc, evSs, evS, evE, evEs, evP, evPs, evI, evB, evBor, evBand, evO, evOB, evAnd, bindT, wipeS, b_30, key, valL]
theorem rngL (k : Nat) : ((List.range k).map fun i => D.int (i : Nat)) = (List.range k).map fun i : Nat => D.int ((i : Nat) : Int) := rfl
abbrev li (l : List Int) : D := .lst (l.map D.int)
theorem ix_li {l : List Int} {i : Nat} {m : Mu} (h : i < l.length) : opIx (li l) (.int (i : Nat)) m = .ok (.val (.int (ga l i))) m := ix_lst (by omega) (by simp [h, ga])
end K94
end

section
set_option Elab.async false
set_option linter.all false
set_option maxRecDepth 100000
set_option maxHeartbeats 4000000
namespace K94
open PySem PySem.Spec PyProof.Rows Dp
/-! ### the draws -/
theorem szl2 {n : Nat} (h : n ≤ 9000) : n ≤ sizeLine := Nat.le_trans h (by decide)
theorem pw18 (m : Mu) : opB .pow (.int 10) (.int 18) m = .ok (.val (.int 1000000000000000000)) m := rfl
theorem l_1a (n : Nat) (m : Mu) (x0 x2 : SV) (y5 : Option SV) (cell : Int) (acc : List Int) (hl : acc.length ≤ 8000) : ∃ (acc' : List Int) (y3 : Int) (y4 : Option SV), acc'.length ≤ acc.length + 40 ∧ forL [] (bodyF (callN G n) (.nm 4) l_1_0) ((List.range 40).map fun i : Nat => D.int (i : Nat)) [some x0, some (.own (.lst (acc.map .int))), some x2, some (.val (.int cell)), none, y5] m = .nx [some x0, some (.own (.lst (acc'.map .int))), some x2, some (.val (.int y3)), y4, y5] m := by
  obtain ⟨⟨acc', y3, y4⟩, h1, h2⟩ := forL_ex (fg := []) (F := bodyF (callN G n) (.nm 4) l_1_0) (fun i : Nat => D.int (i : Nat)) (fun b : List Int × Int × Option SV => [some x0, some (.own (.lst (b.1.map .int))), some x2, some (.val (.int b.2.1)), b.2.2, y5]) (fun _ => m) (fun xs b => b.1.length + xs.length ≤ acc.length + 40)
    (fun x xs b hb => by
      rw [List.length_cons] at hb
      have z0 : b.1.length < sizeLine := szl2 (n := b.1.length + 1) (by omega)
      have bm := b_mod (i := b.2.1) (j := 30) (m := m) (by decide)
      have bf := b_fdiv (i := b.2.1) (j := 30) (m := m) (by decide) (by decide)
      by_cases hc : 0 < b.2.1
      · refine ⟨(b.1 ++ [b.2.1 % 30], b.2.1 / 30, some (.val (.int (x : Nat)))), ?_, [some x0, some (.own (.lst ((b.1 ++ [b.2.1 % 30]).map .int))), some x2, some (.val (.int (b.2.1 / 30))), some (.val (.int (x : Nat))), y5], ?_, rfl⟩
        · show (b.1 ++ [b.2.1 % 30]).length + xs.length ≤ _
          simp
          omega
        · simp -implicitDefEqProofs [↓evS_for, ↓evE_lc, evSs, evS, evE, evEs, evP, evPs, evI, evB, evBor, evBand, evO, evOB, evAnd, bindT, wipeS, bodyF, l_1_0, hc, bm, bf, isL, chgO, opM, z0]
      · refine ⟨(b.1, b.2.1, some (.val (.int (x : Nat)))), ?_, [some x0, some (.own (.lst (b.1.map .int))), some x2, some (.val (.int b.2.1)), some (.val (.int (x : Nat))), y5], ?_, rfl⟩
        · show b.1.length + xs.length ≤ _
          omega
        · simp -implicitDefEqProofs [↓evS_for, ↓evE_lc, evSs, evS, evE, evEs, evP, evPs, evI, evB, evBor, evBand, evO, evOB, evAnd, bindT, wipeS, bodyF, l_1_0, hc])
    (List.range 40) (acc, cell, none) (by simp)
  exact ⟨acc', y3, y4, by simpa using h1, h2⟩
theorem l_1b (n : Nat) (m : Mu) (x0 : SV) (i : Nat) (hi : i ≤ 100) (y3 : SV) (mixed : Int) (hm : 0 ≤ mixed ∧ mixed < 2147483647) (acc : List Int) (hl : acc.length ≤ 8000) : ∃ (acc' : List Int) (y4 y5 : Option SV), acc'.length ≤ acc.length + 40 ∧ forL [] (bodyF (callN G n) (.nm 4) l_1_1) ((List.range 3).map fun i : Nat => D.int (i : Nat)) [some x0, some (.own (.lst (acc.map .int))), some (.val (.int (i : Nat))), some y3, none, some (.val (.int mixed))] m = .nx [some x0, some (.own (.lst (acc'.map .int))), some (.val (.int (i : Nat))), some y3, y4, y5] m := by
  obtain ⟨⟨acc', y5, y4⟩, ⟨h1, _⟩, h2⟩ := forL_ex (fg := []) (F := bodyF (callN G n) (.nm 4) l_1_1) (fun i : Nat => D.int (i : Nat)) (fun b : List Int × Int × Option SV => [some x0, some (.own (.lst (b.1.map .int))), some (.val (.int (i : Nat))), some y3, b.2.2, some (.val (.int b.2.1))]) (fun _ => m) (fun xs b => b.1.length + xs.length ≤ acc.length + 3 ∧ (0 ≤ b.2.1 ∧ b.2.1 < 2147483647))
    (fun x xs b hb => by
      obtain ⟨g1, g2, g3⟩ := hb
      rw [List.length_cons] at g1
      have z0 : b.1.length < sizeLine := szl2 (n := b.1.length + 1) (by omega)
      have b1 := b_mul (i := b.2.1) (j := b.2.1) (m := m) (.inl ⟨by omega, by omega⟩)
      have b2 := b_mulS (i := (x : Int)) (j := 16807) (m := m) (by decide) (by decide)
      have b3 := b_mod (i := b.2.1 * b.2.1 + (x : Int) * 16807 + (i : Int) + 5) (j := 2147483629) (m := m) (by decide)
      have b4 := b_mod (i := (b.2.1 * b.2.1 + (x : Int) * 16807 + (i : Int) + 5) % 2147483629) (j := 30) (m := m) (by decide)
      have k0 := Int.emod_nonneg (b.2.1 * b.2.1 + (x : Int) * 16807 + (i : Int) + 5) (b := 2147483629) (by decide)
      have k1 := Int.emod_lt_of_pos (b.2.1 * b.2.1 + (x : Int) * 16807 + (i : Int) + 5) (b := 2147483629) (by decide)
      obtain ⟨v, hv⟩ : ∃ v, v = (b.2.1 * b.2.1 + (x : Int) * 16807 + (i : Int) + 5) % 2147483629 := ⟨_, rfl⟩
      rw [← hv] at b3 b4 k0 k1
      refine ⟨(b.1 ++ [v % 30], v, some (.val (.int (x : Nat)))), ⟨?_, k0, by show v < _; omega⟩, [some x0, some (.own (.lst ((b.1 ++ [v % 30]).map .int))), some (.val (.int (i : Nat))), some y3, some (.val (.int (x : Nat))), some (.val (.int v))], ?_, rfl⟩
      · show (b.1 ++ [v % 30]).length + xs.length ≤ _
        simp
        omega
      · simp -implicitDefEqProofs [↓evS_for, ↓evE_lc, evSs, evS, evE, evEs, evP, evPs, evI, evB, evBor, evBand, evO, evOB, evAnd, bindT, wipeS, bodyF, l_1_1, b1, b2, b3, b4, isL, chgO, opM, z0])
    (List.range 3) (acc, mixed, none) ⟨by simp, hm⟩
  exact ⟨acc', y4, some (.val (.int y5)), by have : acc'.length + 0 ≤ acc.length + 3 := h1; omega, h2⟩
theorem t_1 (n : Nat) (m : Mu) (ns : List Int) (i : Nat) (hi : i < ns.length) (h100 : i ≤ 100) (acc : List Int) (hl : acc.length ≤ 8000) : ∃ (acc' : List Int) (s1 : Sl), acc'.length ≤ acc.length + 40 ∧ bodyF (callN G n) (.nm 2) l_1_2 (.int (i : Nat)) [some (.val (.seq (ns.map .int))), some (.own (.lst (acc.map .int))), none, none, none, none] m = .nx s1 m ∧ wipeS s1 [2, 3, 4, 5] = [some (.val (.seq (ns.map .int))), some (.own (.lst (acc'.map .int))), none, none, none, none] := by
  have ix : opIx (.seq (ns.map .int)) (.int (i : Nat)) m = .ok (.val (.int (ga ns i))) m := ix_seq (by omega) (by simp [hi, ga])
  obtain ⟨cell, hcell⟩ : ∃ c, c = (if ga ns i < 0 then 3 - ga ns i else ga ns i) := ⟨_, rfl⟩
  have pw := pw18 m
  have b1 := b_mulS (i := cell) (j := 69621) (m := m) (by decide) (by decide)
  have b2 := b_mulS (i := (i : Int)) (j := 48271) (m := m) (by decide) (by decide)
  have b3 := b_mod (i := cell * 69621 + (i : Int) * 48271 + 11) (j := 2147483647) (m := m) (by decide)
  have k0 := Int.emod_nonneg (cell * 69621 + (i : Int) * 48271 + 11) (b := 2147483647) (by decide)
  have k1 := Int.emod_lt_of_pos (cell * 69621 + (i : Int) * 48271 + 11) (b := 2147483647) (by decide)
  obtain ⟨v, hv⟩ : ∃ v, v = (cell * 69621 + (i : Int) * 48271 + 11) % 2147483647 := ⟨_, rfl⟩
  rw [← hv] at b3 k0 k1
  have r40 : r62 40 = true := rfl
  have r3 : r62 3 = true := rfl
  have n40 : (40 : Int).toNat = 40 := rfl
  have n3 : (3 : Int).toNat = 3 := rfl
  by_cases hbig : 1000000000000000000 ≤ cell
  · obtain ⟨acc', y3, y4, q1, q2⟩ := l_1a n m (.val (.seq (ns.map .int))) (.val (.int (i : Nat))) none cell acc hl
    refine ⟨acc', [some (.val (.seq (ns.map .int))), some (.own (.lst (acc'.map .int))), some (.val (.int (i : Nat))), some (.val (.int y3)), y4, none], q1, ?_, rfl⟩
    by_cases hneg : ga ns i < 0
    · rw [if_pos hneg] at hcell
      rw [hcell] at hbig q2
      simp -implicitDefEqProofs [↓evS_for, ↓evE_lc, evSs, evS, evE, evEs, evP, evPs, evI, evB, evBor, evBand, evO, evOB, evAnd, bindT, wipeS, bodyF, l_1_2, ix, hneg, pw, hbig, r40, n40, q2]
    · rw [if_neg hneg] at hcell
      rw [hcell] at hbig q2
      simp -implicitDefEqProofs [↓evS_for, ↓evE_lc, evSs, evS, evE, evEs, evP, evPs, evI, evB, evBor, evBand, evO, evOB, evAnd, bindT, wipeS, bodyF, l_1_2, ix, hneg, pw, hbig, r40, n40, q2]
  · obtain ⟨acc', y4, y5, q1, q2⟩ := l_1b n m (.val (.seq (ns.map .int))) i h100 (.val (.int cell)) v ⟨k0, k1⟩ acc hl
    refine ⟨acc', [some (.val (.seq (ns.map .int))), some (.own (.lst (acc'.map .int))), some (.val (.int (i : Nat))), some (.val (.int cell)), y4, y5], q1, ?_, rfl⟩
    by_cases hneg : ga ns i < 0
    · rw [if_pos hneg] at hcell
      rw [hcell] at hbig q2 b1 b3
      simp -implicitDefEqProofs [↓evS_for, ↓evE_lc, evSs, evS, evE, evEs, evP, evPs, evI, evB, evBor, evBand, evO, evOB, evAnd, bindT, wipeS, bodyF, l_1_2, ix, hneg, pw, hbig, b1, b2, b3, r3, n3, q2, hcell]
    · rw [if_neg hneg] at hcell
      rw [hcell] at hbig q2 b1 b3
      simp -implicitDefEqProofs [↓evS_for, ↓evE_lc, evSs, evS, evE, evEs, evP, evPs, evI, evB, evBor, evBand, evO, evOB, evAnd, bindT, wipeS, bodyF, l_1_2, ix, hneg, pw, hbig, b1, b2, b3, r3, n3, q2, hcell]
theorem c_1 (n : Nat) (m : Mu) (ns : List Int) (hn : ns.length ≤ 63) : ∃ ds : List Int, callN G (n + 1) 1 [.seq (ns.map .int)] m = .ok (.own (.lst (ds.map .int))) m := by
  obtain ⟨acc, ⟨h1, _⟩, h2⟩ := forL_ex (fg := [2, 3, 4, 5]) (F := bodyF (callN G n) (.nm 2) l_1_2) (fun i : Nat => D.int (i : Nat)) (fun b : List Int => [some (.val (.seq (ns.map .int))), some (.own (.lst (b.map .int))), none, none, none, none]) (fun _ => m) (fun xs b => b.length + 40 * xs.length ≤ 2520 ∧ ∀ x ∈ xs, x < ns.length)
    (fun x xs b hb => by
      obtain ⟨g1, g2⟩ := hb
      rw [List.length_cons] at g1
      have hx := g2 x (by simp)
      obtain ⟨acc', s1, t1, t2, t3⟩ := t_1 n m ns x hx (by omega) b (by omega)
      exact ⟨acc', ⟨by omega, fun y hy => g2 y (by simp [hy])⟩, s1, t2, t3⟩)
    (List.range ns.length) [] ⟨by simp; omega, fun x hx => List.mem_range.mp hx⟩
  refine ⟨acc.reverse, ?_⟩
  have hr := r62_nat (n := ns.length) (by omega)
  have hmin : (if (63 : Int) < (ns.length : Int) then (63 : Int) else (ns.length : Int)) = ns.length := if_neg (by omega)
  have hm2 : ¬ ((63 : Int) < (ns.length : Int)) := by omega
  simp only [List.map_nil] at h2
  rw [o_1]
  simp -implicitDefEqProofs [↓evS_for, ↓evE_lc, evSs, evS, evE, evEs, evP, evPs, evI, evB, evBor, evBand, evO, evOB, evAnd, bindT, wipeS, b_1, hm2, hr, h2, isL, chgO, opM]
end K94
end

section
set_option Elab.async false
set_option linter.all false
set_option maxRecDepth 100000
set_option maxHeartbeats 4000000
namespace K94
open PySem PySem.Spec PyProof.Rows Dp
@[simp] theorem st_ex {α : Type} (x : Exn) (m : Mu) (s : Sl) (f : α → Mu → SR) : (R.ex x m).st s f = .ex x s m := rfl
@[simp] theorem bd_ex {α β : Type} (x : Exn) (m : Mu) (f : α → Mu → R β) : (R.ex x m : R α).bind f = .ex x m := rfl
@[simp] theorem then_ex (x : Exn) (s : Sl) (m : Mu) (f : Sl → Mu → SR) : (SR.ex x s m).then_ f = .ex x s m := rfl
@[simp] theorem back_ex (x : Exn) (s : Sl) (m : Mu) : (SR.ex x s m).back = .ex x m := rfl
theorem lx1 : List.lookup ("BadPoint" : Str) G.exs = some "place" := rfl
theorem lx2 : List.lookup ("BadNumber" : Str) G.exs = some "thing" := rfl
theorem lx3 : List.lookup ("TooMany" : Str) G.exs = some "limit" := rfl
abbrev eBP (i : Int) : Exn := ⟨"BadPoint", ["place"], [.int i]⟩
abbrev eBN (i : Int) : Exn := ⟨"BadNumber", ["thing"], [.int i]⟩
abbrev eTM (i : Int) : Exn := ⟨"TooMany", ["limit"], [.int i]⟩
/-- a loop that goes on over the first ones and ends at one -/
theorem forL_stop {α β : Type} {fg : List Nat} {F : D → Sl → Mu → SR} {m : Mu} (f : α → D) (st : β → Sl) (I : β → Prop) (x : D) (post : List D) (r : SR) (hr : ∀ b, I b → F x (st b) m = r) (hx : (∃ v m1, r = .rt v m1) ∨ ∃ e s1 m1, r = .ex e s1 m1) : ∀ (pre : List α) (b : β), I b → (∀ b y, y ∈ pre → I b → ∃ b', I b' ∧ ∃ s1, F (f y) (st b) m = .nx s1 m ∧ wipeS s1 fg = st b') → forL fg F (pre.map f ++ x :: post) (st b) m = r
  | [], b, hb, _ => by
    show forL fg F (x :: post) (st b) m = r
    unfold forL
    rw [hr b hb]
    rcases hx with ⟨v, m1, rfl⟩ | ⟨e, s1, m1, rfl⟩ <;> rfl
  | y :: pre, b, hb, h => by
    obtain ⟨b1, h1, s1, h2, h3⟩ := h b y (by simp) hb
    rw [List.map_cons, List.cons_append]
    unfold forL
    rw [h2]
    dsimp only
    rw [h3]
    exact forL_stop f st I x post r hr hx pre b1 h1 fun b z hz => h b z (by simp [hz])
theorem c_13b (n : Nat) (i : Bool) (m : Mu) : callN G (n + 1) 13 [.bl i] m = .ok (.val (.bl false)) m := by rfl
/-- no row of numbers -/
def NotRow (p : Int) (w : Nat) (d : D) : Prop := d = .non ∨ (∃ l : List Int, d = pt l ∧ l.length ≠ w) ∨ ∃ (l : List Int) (e : D), d = .tup (l.map .int ++ [e]) ∧ l.length + 1 = w ∧ (∀ x ∈ l, 0 ≤ x ∧ x < p) ∧ (e = .int p ∨ e = .bl true)
theorem isis_non : isTyA G.subs .non [.bt "list", .bt "tuple"] = some false := rfl
theorem isis_int (i : Int) : isTyA G.subs (.int i) [.bt "list", .bt "tuple"] = some false := rfl
@[simp] theorem see_non (m : Mu) : seeD m .non = .non := rfl
theorem c_14n (n : Nat) (p : Int) (w : Nat) (d : D) (h : NotRow p w d) (m : Mu) : callN G (n + 2) 14 [.int p, .int (w : Nat), d] m = .ok (.val (.bl false)) m := by
  rw [o_14]
  rcases h with rfl | ⟨l, rfl, hl⟩ | ⟨l, e, rfl, hl, hx, he⟩
  · simp -implicitDefEqProofs [↓evS_for, ↓evE_lc, evSs, evS, evE, evEs, evP, evPs, evI, evB, evBor, evBand, evO, evOB, evAnd, bindT, wipeS, b_14, isis_non]
  · have hw : ((l.length : Int) = (w : Int)) = False := eq_false (by omega)
    simp -implicitDefEqProofs [↓evS_for, ↓evE_lc, evSs, evS, evE, evEs, evP, evPs, evI, evB, evBor, evBand, evO, evOB, evAnd, bindT, wipeS, b_14, isis_tup, hw]
  · have key := forL_stop (m := m) (fg := [3]) (F := bodyF (callN G (n + 1)) (.nm 3) l_14_0) D.int (fun _ : Unit => [some (.val (.int p)), some (.val (.int (w : Nat))), some (.val (.tup (l.map .int ++ [e]))), none]) (fun _ => True) e [] (.rt (.val (.bl false)) m) (fun b _ => by
      rcases he with rfl | rfl
      · have c := c_13 n p m
        have h1 : ¬ (p < p) := by omega
        by_cases h0 : 0 ≤ p <;> simp -implicitDefEqProofs [↓evS_for, ↓evE_lc, evSs, evS, evE, evEs, evP, evPs, evI, evB, evBor, evBand, evO, evOB, evAnd, bindT, wipeS, bodyF, l_14_0, c, h1, h0]
      · have c := c_13b n true m
        simp -implicitDefEqProofs [↓evS_for, ↓evE_lc, evSs, evS, evE, evEs, evP, evPs, evI, evB, evBor, evBand, evO, evOB, evAnd, bindT, wipeS, bodyF, l_14_0, c]) (.inl ⟨_, _, rfl⟩) l () trivial (fun b y hy _ => by
      obtain ⟨h1, h2⟩ := hx y hy
      have c := c_13 n y m
      exact ⟨(), trivial, _, (by simp -implicitDefEqProofs [↓evS_for, ↓evE_lc, evSs, evS, evE, evEs, evP, evPs, evI, evB, evBor, evBand, evO, evOB, evAnd, bindT, wipeS, bodyF, l_14_0, c, h1, h2] <;> rfl), rfl⟩)
    have hw : ((l.length : Int) + 1 = (w : Int)) = True := eq_true (by omega)
    simp -implicitDefEqProofs [↓evS_for, ↓evE_lc, evSs, evS, evE, evEs, evP, evPs, evI, evB, evBor, evBand, evO, evOB, evAnd, bindT, wipeS, b_14, isis_tup, hw, key]
end K94
end

section
set_option Elab.async false
set_option linter.all false
set_option maxRecDepth 100000
set_option maxHeartbeats 4000000
namespace K94
open PySem PySem.Spec PyProof.Rows Dp
/-- a list or a tuple of these -/
def Sq2 (x : D) (ds : List D) : Prop := x = .lst ds ∨ x = .tup ds
theorem tr_tup (ds : List D) : truthD (.tup ds) = some (!ds.isEmpty) := rfl
theorem tr_non : truthD .non = some false := rfl
theorem enum_app (a : List D) (b : D) (c : List D) : ∃ rest, ((List.range (a ++ b :: c).length).zip (a ++ b :: c)).map (fun q : Nat × D => D.tup [.int (q.1 : Nat), q.2]) = ((List.range a.length).zip a).map (fun q : Nat × D => D.tup [.int (q.1 : Nat), q.2]) ++ D.tup [.int (a.length : Nat), b] :: rest := by
  have e1 : List.range (a ++ b :: c).length = List.range a.length ++ a.length :: List.range' (a.length + 1) c.length := by
    rw [List.range_eq_range', List.range_eq_range', List.length_append, List.length_cons, List.range'_append_1.symm]
    simp [List.range'_succ]
  rw [e1, List.zip_append (by simp), List.zip_cons_cons, List.map_append, List.map_cons]
  exact ⟨_, rfl⟩
theorem en_bad (p : Int) (ps : List (List Int)) (d : D) (post : List D) : ∃ rest, ((List.range (ps.length + (post.length + 1))).zip (ps.map pt ++ d :: post)).map (fun q : Nat × D => D.tup [.int (q.1 : Nat), q.2]) = ((List.range ps.length).zip ps).map (fun q : Nat × List Int => D.tup [.int (q.1 : Nat), pt q.2]) ++ D.tup [.int (ps.length : Nat), d] :: rest := by
  obtain ⟨rest, h⟩ := enum_app (ps.map pt) d post
  refine ⟨rest, ?_⟩
  have e : (ps.map pt ++ d :: post).length = ps.length + (post.length + 1) := by simp
  rw [e] at h
  rw [h, List.length_map]
  congr 1
  have en := enum_map pt ps
  rw [List.length_map] at en
  exact en
theorem ix_s2 {x : D} {ds : List D} (hx : Sq2 x ds) {i : Nat} {d : D} {m : Mu} (h : ds[i]? = some d) : opIx x (.int (i : Nat)) m = .ok (.val d) m := by
  rcases hx with rfl | rfl
  · exact ix_lst (by omega) (by simp [h])
  · exact ix_tup (by omega) (by simp [h])
theorem c_11g (n : Nat) (p : Int) (hp : Pr p) (w : Nat) (hw : w ≤ 90) (m : Mu) (ps : List (List Int)) (r0 : List Int) (h0 : ps[0]? = some r0) (hl : ps.length ≤ 50) (h : ∀ l ∈ ps, RowP p w l) (x : D) (hx : Sq2 x (ps.map pt)) : callN G (n + 3) 11 [.int p, x] m = .ok (.own (.lst (ps.map pt))) m := by
  rw [o_11]
  have c12 := c_12p n p hp m
  have i0 : opIx x (.int 0) m = .ok (.val (pt r0)) m := ix_s2 hx (i := 0) (by simp [h0])
  have hr0 := (h r0 (List.mem_of_getElem? h0)).1
  have hw9 : ¬ ((90 : Int) < (w : Int)) := by omega
  have hne : (ps.map pt).isEmpty = false := by
    cases ps with
    | nil => cases h0
    | cons => rfl
  have key := forL_runf (m := m) (fg := [2]) (F := bodyF (callN G (n + 2)) (.tp [2, 3]) l_11_0) (fun q : Nat × List Int => D.tup [.int (q.1 : Nat), pt q.2]) (fun b : Option SV => [some (.val (.int p)), some (.val x), none, b]) (fun _ q => some (.val (pt q.2))) (fun _ => True) ((List.range ps.length).zip ps) none trivial (fun b q hq _ => by
    have c := c_14 n p w q.2 (h q.2 (List.of_mem_zip hq).2) m
    refine ⟨trivial, [some (.val (.int p)), some (.val x), some (.val (.int (q.1 : Nat))), some (.val (pt q.2))], ?_, rfl⟩
    rcases hx with rfl | rfl <;> simp -implicitDefEqProofs [↓evS_for, ↓evE_lc, evSs, evS, evE, evEs, evP, evPs, evI, evB, evBor, evBand, evO, evOB, evAnd, bindT, wipeS, bodyF, l_11_0, i0, hr0, c])
  have lk := lcL_mapf (m := m) (F := lcF (callN G (n + 2)) [some (.val (.int p)), some (.val x), none, none] (.nm 3) .none (.bif .tuple (.cons (.e (.var 3)) .nil))) pt pt ps [] (by simp; omega) (fun y hy => by simp -implicitDefEqProofs [↓evS_for, ↓evE_lc, evSs, evS, evE, evEs, evP, evPs, evI, evB, evBor, evBand, evO, evOB, evAnd, bindT, wipeS, lcF])
  have en := enum_map pt ps
  rw [List.length_map] at en
  rcases hx with rfl | rfl <;> simp -implicitDefEqProofs [↓evS_for, ↓evE_lc, evSs, evS, evE, evEs, evP, evPs, evI, evB, evBor, evBand, evO, evOB, evAnd, bindT, wipeS, b_11, c12, isis_lst, isis_tup, tr_lst, tr_tup, hne, i0, hr0, hw9, en, key, lk]
theorem c_11b (n : Nat) (p : Int) (hp : Pr p) (w : Nat) (hw : w ≤ 90) (m : Mu) (ps : List (List Int)) (r0 : List Int) (h0 : ps[0]? = some r0) (h : ∀ l ∈ ps, RowP p w l) (d : D) (post : List D) (hd : NotRow p w d) : callN G (n + 3) 11 [.int p, .lst (ps.map pt ++ d :: post)] m = .ex (eBP (ps.length : Nat)) m := by
  rw [o_11]
  have c12 := c_12p n p hp m
  have i0 : opIx (.lst (ps.map pt ++ d :: post)) (.int 0) m = .ok (.val (pt r0)) m := ix_lst (by omega) (by
    cases ps with
    | nil => cases h0
    | cons a b => cases h0; rfl)
  have hr0 := (h r0 (List.mem_of_getElem? h0)).1
  have hw9 : ¬ ((90 : Int) < (w : Int)) := by omega
  have hne : (ps.map pt ++ d :: post).isEmpty = false := by simp
  obtain ⟨rest, en⟩ := en_bad p ps d post
  have key := forL_stop (m := m) (fg := [2]) (F := bodyF (callN G (n + 2)) (.tp [2, 3]) l_11_0) (fun q : Nat × List Int => D.tup [.int (q.1 : Nat), pt q.2]) (fun b : Option SV => [some (.val (.int p)), some (.val (.lst (ps.map pt ++ d :: post))), none, b]) (fun _ => True) (D.tup [.int (ps.length : Nat), d]) rest (.ex (eBP (ps.length : Nat)) [some (.val (.int p)), some (.val (.lst (ps.map pt ++ d :: post))), some (.val (.int (ps.length : Nat))), some (.val d)] m) (fun b _ => by
    have c := c_14n n p w d hd m
    simp -implicitDefEqProofs [↓evS_for, ↓evE_lc, evSs, evS, evE, evEs, evP, evPs, evI, evB, evBor, evBand, evO, evOB, evAnd, bindT, wipeS, bodyF, l_11_0, i0, hr0, c, lx1]) (.inr ⟨_, _, _, rfl⟩) ((List.range ps.length).zip ps) none trivial (fun b q hq _ => by
    have c := c_14 n p w q.2 (h q.2 (List.of_mem_zip hq).2) m
    exact ⟨some (.val (pt q.2)), trivial, [some (.val (.int p)), some (.val (.lst (ps.map pt ++ d :: post))), some (.val (.int (q.1 : Nat))), some (.val (pt q.2))], by simp -implicitDefEqProofs [↓evS_for, ↓evE_lc, evSs, evS, evE, evEs, evP, evPs, evI, evB, evBor, evBand, evO, evOB, evAnd, bindT, wipeS, bodyF, l_11_0, i0, hr0, c], rfl⟩)
  simp -implicitDefEqProofs [↓evS_for, ↓evE_lc, evSs, evS, evE, evEs, evP, evPs, evI, evB, evBor, evBand, evO, evOB, evAnd, bindT, wipeS, b_11, c12, isis_lst, isis_tup, tr_lst, hne, i0, hr0, hw9, en, key]
theorem c_11e (n : Nat) (p : Int) (hp : Pr p) (m : Mu) (x : D) (hx : x = .lst [] ∨ x = .non ∨ ∃ i, x = .int i) : callN G (n + 3) 11 [.int p, x] m = .ex (eBP (-1)) m := by
  rw [o_11]
  have c12 := c_12p n p hp m
  rcases hx with rfl | rfl | ⟨i, rfl⟩ <;> simp -implicitDefEqProofs [↓evS_for, ↓evE_lc, evSs, evS, evE, evEs, evP, evPs, evI, evB, evBor, evBand, evO, evOB, evAnd, bindT, wipeS, b_11, c12, isis_lst, isis_non, isis_int, tr_lst, lx1]
theorem c_15g (n : Nat) (p : Int) (w : Nat) (m : Mu) (R : List (List Int)) (r0 : List Int) (h0 : R[0]? = some r0) (hr0 : r0.length = w) (B : List (List Int)) (hB : ∀ l ∈ B, RowP p w l ∧ l ∉ R) (hl : B.length ≤ 50) (x : D) (hx : Sq2 x (B.map pt)) : callN G (n + 3) 15 [.int p, pl R, x] m = .ok (.own (.lst (B.map pt))) m := by
  rw [o_15]
  have i0 : opIx (pl R) (.int 0) m = .ok (.val (pt r0)) m := ix_pl (i := 0) h0
  have key := forL_runf (m := m) (fg := [3]) (F := bodyF (callN G (n + 2)) (.tp [3, 4]) l_15_0) (fun q : Nat × List Int => D.tup [.int (q.1 : Nat), pt q.2]) (fun b : Option SV => [some (.val (.int p)), some (.val (pl R)), some (.val x), none, b]) (fun _ q => some (.val (pt q.2))) (fun _ => True) ((List.range B.length).zip B) none trivial (fun b q hq _ => by
    have hb := hB q.2 (List.of_mem_zip hq).2
    have c := c_14 n p w q.2 hb.1 m
    have hn := hb.2
    refine ⟨trivial, _, by simp -implicitDefEqProofs [↓evS_for, ↓evE_lc, evSs, evS, evE, evEs, evP, evPs, evI, evB, evBor, evBand, evO, evOB, evAnd, bindT, wipeS, bodyF, l_15_0, i0, hr0, c, hn]; rfl, rfl⟩)
  have lk := lcL_mapf (m := m) (F := lcF (callN G (n + 2)) [some (.val (.int p)), some (.val (pl R)), some (.val x), none, none] (.nm 4) .none (.bif .tuple (.cons (.e (.var 4)) .nil))) pt pt B [] (by simp; omega) (fun y hy => by simp -implicitDefEqProofs [↓evS_for, ↓evE_lc, evSs, evS, evE, evEs, evP, evPs, evI, evB, evBor, evBand, evO, evOB, evAnd, bindT, wipeS, lcF])
  have en := enum_map pt B
  rw [List.length_map] at en
  rcases hx with rfl | rfl <;> simp -implicitDefEqProofs [↓evS_for, ↓evE_lc, evSs, evS, evE, evEs, evP, evPs, evI, evB, evBor, evBand, evO, evOB, evAnd, bindT, wipeS, b_15, isis_lst, isis_tup, en, key, lk]
theorem c_15b (n : Nat) (p : Int) (w : Nat) (m : Mu) (R : List (List Int)) (r0 : List Int) (h0 : R[0]? = some r0) (hr0 : r0.length = w) (B : List (List Int)) (hB : ∀ l ∈ B, RowP p w l ∧ l ∉ R) (d : D) (post : List D) (hd : NotRow p w d ∨ ∃ l, d = pt l ∧ l ∈ R ∧ RowP p w l) : callN G (n + 3) 15 [.int p, pl R, .lst (B.map pt ++ d :: post)] m = .ex (eBP (B.length : Nat)) m := by
  rw [o_15]
  have i0 : opIx (pl R) (.int 0) m = .ok (.val (pt r0)) m := ix_pl (i := 0) h0
  obtain ⟨rest, en⟩ := en_bad p B d post
  have key := forL_stop (m := m) (fg := [3]) (F := bodyF (callN G (n + 2)) (.tp [3, 4]) l_15_0) (fun q : Nat × List Int => D.tup [.int (q.1 : Nat), pt q.2]) (fun b : Option SV => [some (.val (.int p)), some (.val (pl R)), some (.val (.lst (B.map pt ++ d :: post))), none, b]) (fun _ => True) (D.tup [.int (B.length : Nat), d]) rest (.ex (eBP (B.length : Nat)) [some (.val (.int p)), some (.val (pl R)), some (.val (.lst (B.map pt ++ d :: post))), some (.val (.int (B.length : Nat))), some (.val d)] m) (fun b _ => by
    rcases hd with hd | ⟨l, rfl, hl, hr⟩
    · have c := c_14n n p w d hd m
      simp -implicitDefEqProofs [↓evS_for, ↓evE_lc, evSs, evS, evE, evEs, evP, evPs, evI, evB, evBor, evBand, evO, evOB, evAnd, bindT, wipeS, bodyF, l_15_0, i0, hr0, c, lx1]
    · have c := c_14 n p w l hr m
      simp -implicitDefEqProofs [↓evS_for, ↓evE_lc, evSs, evS, evE, evEs, evP, evPs, evI, evB, evBor, evBand, evO, evOB, evAnd, bindT, wipeS, bodyF, l_15_0, i0, hr0, c, hl, lx1]) (.inr ⟨_, _, _, rfl⟩) ((List.range B.length).zip B) none trivial (fun b q hq _ => by
    have hb := hB q.2 (List.of_mem_zip hq).2
    have c := c_14 n p w q.2 hb.1 m
    have hn := hb.2
    exact ⟨some (.val (pt q.2)), trivial, [some (.val (.int p)), some (.val (pl R)), some (.val (.lst (B.map pt ++ d :: post))), some (.val (.int (q.1 : Nat))), some (.val (pt q.2))], by simp -implicitDefEqProofs [↓evS_for, ↓evE_lc, evSs, evS, evE, evEs, evP, evPs, evI, evB, evBor, evBand, evO, evOB, evAnd, bindT, wipeS, bodyF, l_15_0, i0, hr0, c, hn], rfl⟩)
  simp -implicitDefEqProofs [↓evS_for, ↓evE_lc, evSs, evS, evE, evEs, evP, evPs, evI, evB, evBor, evBand, evO, evOB, evAnd, bindT, wipeS, b_15, isis_lst, isis_tup, en, key]
theorem c_15e (n : Nat) (p : Int) (m : Mu) (R : D) : callN G (n + 3) 15 [.int p, R, .non] m = .ex (eBP (-1)) m := by
  rw [o_15]
  simp -implicitDefEqProofs [↓evS_for, ↓evE_lc, evSs, evS, evE, evEs, evP, evPs, evI, evB, evBor, evBand, evO, evOB, evAnd, bindT, wipeS, b_15, isis_non, lx1]
end K94
end

section
set_option Elab.async false
set_option linter.all false
set_option maxRecDepth 100000
set_option maxHeartbeats 4000000
namespace K94
open PySem PySem.Spec PyProof.Rows Dp
theorem ans_congr2 {c d : Int → Int} {w : Nat} (h : ∀ e, 0 ≤ e → c e = d e) : ansL c w = ansL d w := by
  unfold ansL
  have e1 : (dn w).filter (fun e => decide (c e ≠ 0)) = (dn w).filter fun e => decide (d e ≠ 0) := List.filter_congr fun e he => by
    rw [h e ((mem_dn w e).mp he).1]
  rw [e1]
  refine List.map_congr_left fun e he => ?_
  rw [h e ((mem_dn w e).mp (List.mem_filter.mp he).1).1]
theorem lc_ext (cf : Nat → List D → Mu → R SV) (m : Mu) (sl : Sl) (i : Nat) (R : List (List Int)) (hl : R.length ≤ 50) (hR : ∀ x ∈ R, x.length ≤ 90) (h : ∀ x ∈ R, lcF cf sl (.nm i) .none (.bin .add (.e (.var i)) (.e (.tup (.cons (.int 1) .nil)))) (pt x) m = .ok (some (pt (ex1 x))) m) : lcL (lcF cf sl (.nm i) .none (.bin .add (.e (.var i)) (.e (.tup (.cons (.int 1) .nil))))) (R.map pt) [] m = .ok ((R.map ex1).map pt) m := by
  have := lcL_mapf (m := m) (F := lcF cf sl (.nm i) .none (.bin .add (.e (.var i)) (.e (.tup (.cons (.int 1) .nil))))) pt (fun x => pt (ex1 x)) R [] (by simp; omega) h
  rw [this, List.map_map]
  rfl
theorem ex_add (x : List Int) (m : Mu) (h : x.length ≤ 90) : opB .add (.tup (x.map .int)) (.tup [.int 1]) m = .ok (.val (pt (ex1 x))) m := by
  have ta := tadd (x.map .int) [.int 1] m (by simp; omega)
  have e1 : x.map D.int ++ [.int 1] = (ex1 x).map .int := by simp [ex1]
  rw [e1] at ta
  exact ta
theorem c_10g {q : Nat} [NeZero q] (hF : La.Fld q) (hp : Pr q) (n : Nat) (m : Mu) (w : Nat) (hw : w ≤ 50) (R B : List (List Int)) (r0 : List Int) (h0 : R[0]? = some r0) (hR : ∀ u ∈ R, RowP q w u) (hB : ∀ u ∈ B, RowP q w u ∧ u ∉ R) (hl : B.length ≤ 10) (hf : R.length ≤ 20) (x y : D) (hx : Sq2 x (R.map pt)) (hy : Sq2 y (B.map pt)) :
    callN G (n + 7) 10 [.int q, x, y] m = .ok (.val (.tup ((ansL (PQ q w R B) (w + 1)).map prD))) m := by
  have hq1 : 1 < (q : Int) := by rcases hp with h | h | h | h <;> omega
  have c11 := c_11g (n + 3) q hp w (by omega) m R r0 h0 (by omega) hR x hx
  have hr0 := (hR r0 (List.mem_of_getElem? h0)).1
  have c15 := c_15g (n + 3) q w m R r0 h0 hr0 B hB (by omega) y hy
  have hRe : ∀ r ∈ R.map ex1, RowP q (w + 1) r := fun r hr => by
    obtain ⟨y, hy, rfl⟩ := List.mem_map.mp hr
    exact ex1_row hq1 (hR y hy)
  have hBe : ∀ r ∈ B.map ex1, RowP q (w + 1) r := fun r hr => by
    obtain ⟨y, hy, rfl⟩ := List.mem_map.mp hr
    exact ex1_row hq1 (hB y hy).1
  obtain ⟨rl, a1, a2, a3, c16⟩ := c_16 (n + 2) q hp (w + 1) (by omega) m (R.map ex1) hRe (by simp; omega) (.lst ((R.map ex1).map pt)) (.inl rfl)
  obtain ⟨sts, b1, c23⟩ := c_23 n q hp (w + 1) (by omega) m rl a2 (by simp at a3; omega) (B.map ex1) hBe (by simpa using hl)
  obtain ⟨d1, d2⟩ := mend_ans hF hRe hBe a2 a1 b1
  have c23' := c23 (by omega)
  rw [d1] at c23'
  have nw := new_sp m q (w + 1) rl
  have i0 : opIx (pl R) (.int 0) m = .ok (.val (pt r0)) m := ix_pl (i := 0) h0
  have hB10 : ¬ ((10 : Int) < (B.length : Int)) := by omega
  have z1 : (1 : Nat) ≤ sizeLine := szl (by decide)
  have l1 := lc_ext (callN G (n + 6)) m [some (.val (.int q)), some (.val x), some (.val y), some (.val (pl R)), some (.val (pl B)), none, none] 6 R (by omega) (fun z hz => by rw [(hR z hz).1]; omega) (fun z hz => by
    have ta := ex_add z m (by rw [(hR z hz).1]; omega)
    simp -implicitDefEqProofs [↓evS_for, ↓evE_lc, evSs, evS, evE, evEs, evP, evPs, evI, evB, evBor, evBand, evO, evOB, evAnd, bindT, wipeS, lcF, z1, ta])
  have l2 := lc_ext (callN G (n + 6)) m [some (.val (.int q)), some (.val x), some (.val y), some (.val (pl R)), some (.val (pl B)), some (.val (SpD q (w + 1) rl)), none] 6 B (by omega) (fun z hz => by rw [(hB z hz).1.1]; omega) (fun z hz => by
    have ta := ex_add z m (by rw [(hB z hz).1.1]; omega)
    simp -implicitDefEqProofs [↓evS_for, ↓evE_lc, evSs, evS, evE, evEs, evP, evPs, evI, evB, evBor, evBand, evO, evOB, evAnd, bindT, wipeS, lcF, z1, ta])
  have hPQ : PP q (w + 1) (R.map ex1) (B.map ex1) = PQ q w R B := rfl
  rw [hPQ] at c23'
  have hW : (w : Int) + 1 = ((w + 1 : Nat) : Int) := rfl
  obtain ⟨W, hWd⟩ : ∃ t, t = w + 1 := ⟨_, rfl⟩
  rw [← hWd] at c16 c23' nw l2 hW ⊢
  obtain ⟨RR, hRR⟩ : ∃ t, t = R.map ex1 := ⟨_, rfl⟩
  obtain ⟨BB, hBB⟩ : ∃ t, t = B.map ex1 := ⟨_, rfl⟩
  rw [← hRR] at c16 l1
  rw [← hBB] at c23' l2
  rw [o_10]
  simp -implicitDefEqProofs [↓evS_for, ↓evE_lc, evSs, evS, evE, evEs, evP, evPs, evI, evB, evBor, evBand, evO, evOB, evAnd, bindT, wipeS, b_10, c11, c15, hB10, i0, hr0, hW, l1, c16, nw, l2, c23']
theorem c_10x (n : Nat) (p : Int) (m : Mu) (x y : D) (e : Exn) (h : callN G (n + 6) 11 [.int p, x] m = .ex e m) : callN G (n + 7) 10 [.int p, x, y] m = .ex e m := by
  rw [o_10]
  simp -implicitDefEqProofs [↓evS_for, ↓evE_lc, evSs, evS, evE, evEs, evP, evPs, evI, evB, evBor, evBand, evO, evOB, evAnd, bindT, wipeS, b_10, h]
theorem c_10y (n : Nat) (p : Int) (m : Mu) (x y : D) (r : SV) (e : Exn) (h : callN G (n + 6) 11 [.int p, x] m = .ok r m) (h2 : callN G (n + 6) 15 [.int p, r.fz, y] m = .ex e m) : callN G (n + 7) 10 [.int p, x, y] m = .ex e m := by
  rw [o_10]
  simp -implicitDefEqProofs [↓evS_for, ↓evE_lc, evSs, evS, evE, evEs, evP, evPs, evI, evB, evBor, evBand, evO, evOB, evAnd, bindT, wipeS, b_10, h, h2]
theorem c_10t (n : Nat) (p : Int) (hp : Pr p) (m : Mu) (w : Nat) (hw : w ≤ 50) (R B : List (List Int)) (r0 : List Int) (h0 : R[0]? = some r0) (hR : ∀ u ∈ R, RowP p w u) (hB : ∀ u ∈ B, RowP p w u ∧ u ∉ R) (hl : 10 < B.length) (hl2 : B.length ≤ 50) (hf : R.length ≤ 20) (x y : D) (hx : Sq2 x (R.map pt)) (hy : Sq2 y (B.map pt)) :
    callN G (n + 7) 10 [.int p, x, y] m = .ex (eTM 10) m := by
  have c11 := c_11g (n + 3) p hp w (by omega) m R r0 h0 (by omega) hR x hx
  have hr0 := (hR r0 (List.mem_of_getElem? h0)).1
  have c15 := c_15g (n + 3) p w m R r0 h0 hr0 B hB (by omega) y hy
  have hB10 : (10 : Int) < (B.length : Int) := by omega
  rw [o_10]
  simp -implicitDefEqProofs [↓evS_for, ↓evE_lc, evSs, evS, evE, evEs, evP, evPs, evI, evB, evBor, evBand, evO, evOB, evAnd, bindT, wipeS, b_10, c11, c15, hB10, lx3]
theorem ans_bd {q : Nat} [NeZero q] (w : Nat) (hw : w ≤ 10) (R B : List (List Int)) (hl : B.length ≤ 10) : ∀ x ∈ ansL (PQ q w R B) (w + 1), (0 ≤ x.1 ∧ x.1 ≤ 20) ∧ (-5000 ≤ x.2 ∧ x.2 ≤ 5000) := fun x hx => by
  unfold ansL at hx
  obtain ⟨e, he, rfl⟩ := List.mem_map.mp hx
  have h1 := (mem_dn _ _).mp (List.mem_filter.mp he).1
  have h2 := PP_abs (q := q) (w + 1) (R.map ex1) (B.map ex1) e (by simpa using hl)
  have h3 : PQ q w R B e = PP q (w + 1) (R.map ex1) (B.map ex1) e := rfl
  rw [← h3] at h2
  exact ⟨⟨h1.1, by show e ≤ 20; omega⟩, by show -5000 ≤ PQ q w R B e; omega, by show PQ q w R B e ≤ 5000; omega⟩
theorem c_29g {q : Nat} [NeZero q] (hF : La.Fld q) (hp : Pr q) (n : Nat) (m : Mu) (w : Nat) (hw : w ≤ 10) (R B : List (List Int)) (r0 : List Int) (h0 : R[0]? = some r0) (hR : ∀ u ∈ R, RowP q w u) (hB : ∀ u ∈ B, RowP q w u ∧ u ∉ R) (hl : B.length ≤ 10) (hf : R.length ≤ 20) (k : Nat) (hk : k ≤ 6) (x y : D) (hx : Sq2 x (R.map pt)) (hy : Sq2 y (B.map pt)) :
    callN G (n + 8) 29 [.int q, x, y, .int (k : Nat)] m = .ok (.val (.int (valL q k (ansL (PQ q w R B) (w + 1))))) m := by
  have hr0 := (hR r0 (List.mem_of_getElem? h0)).1
  have c11 := c_11g (n + 4) q hp w (by omega) m R r0 h0 (by omega) hR x hx
  have c15 := c_15g (n + 4) q w m R r0 h0 hr0 B hB (by omega) y hy
  have c10 := c_10g hF hp n m w (by omega) R B r0 h0 hR hB hl hf x y hx hy
  have c30 := c_30 (n + 5) q hp k hk m (ansL (PQ q w R B) (w + 1)) (ans_bd w hw R B hl)
  have c13 := c_13 (n + 6) k m
  have k0 : (0 : Int) ≤ (k : Int) := by omega
  have k6 : (k : Int) ≤ 6 := by omega
  obtain ⟨A, hA⟩ : ∃ t, t = ansL (PQ q w R B) (w + 1) := ⟨_, rfl⟩
  rw [← hA] at c10 c30 ⊢
  rw [o_29]
  simp -implicitDefEqProofs [↓evS_for, ↓evE_lc, evSs, evS, evE, evEs, evP, evPs, evI, evB, evBor, evBand, evO, evOB, evAnd, bindT, wipeS, b_29, c11, c15, c10, c30, c13, k0, k6]
theorem c_29n (n : Nat) (p : Int) (hp : Pr p) (m : Mu) (w : Nat) (hw : w ≤ 10) (R B : List (List Int)) (r0 : List Int) (h0 : R[0]? = some r0) (hR : ∀ u ∈ R, RowP p w u) (hB : ∀ u ∈ B, RowP p w u ∧ u ∉ R) (hl : B.length ≤ 50) (hf : R.length ≤ 20) (k : Int) (hk : k < 0 ∨ 6 < k) :
    callN G (n + 8) 29 [.int p, pl R, pl B, .int k] m = .ex (eBN k) m := by
  have hr0 := (hR r0 (List.mem_of_getElem? h0)).1
  have c11 := c_11g (n + 4) p hp w (by omega) m R r0 h0 (by omega) hR (pl R) (.inl rfl)
  have c15 := c_15g (n + 4) p w m R r0 h0 hr0 B hB (by omega) (pl B) (.inl rfl)
  have c13 := c_13 (n + 6) k m
  rw [o_29]
  by_cases k0 : 0 ≤ k
  · have k6 : ¬ k ≤ 6 := by omega
    simp -implicitDefEqProofs [↓evS_for, ↓evE_lc, evSs, evS, evE, evEs, evP, evPs, evI, evB, evBor, evBand, evO, evOB, evAnd, bindT, wipeS, b_29, c11, c15, c13, k0, k6, lx2]
  · simp -implicitDefEqProofs [↓evS_for, ↓evE_lc, evSs, evS, evE, evEs, evP, evPs, evI, evB, evBor, evBand, evO, evOB, evAnd, bindT, wipeS, b_29, c11, c15, c13, k0, lx2]
theorem c_29y (n : Nat) (p : Int) (m : Mu) (x y z : D) (r : SV) (e : Exn) (h : callN G (n + 7) 11 [.int p, x] m = .ok r m) (h2 : callN G (n + 7) 15 [.int p, r.fz, y] m = .ex e m) : callN G (n + 8) 29 [.int p, x, y, z] m = .ex e m := by
  rw [o_29]
  simp -implicitDefEqProofs [↓evS_for, ↓evE_lc, evSs, evS, evE, evEs, evP, evPs, evI, evB, evBor, evBand, evO, evOB, evAnd, bindT, wipeS, b_29, h, h2]
theorem c_29t (n : Nat) (p : Int) (hp : Pr p) (m : Mu) (w : Nat) (hw : w ≤ 10) (R B : List (List Int)) (r0 : List Int) (h0 : R[0]? = some r0) (hR : ∀ u ∈ R, RowP p w u) (hB : ∀ u ∈ B, RowP p w u ∧ u ∉ R) (hl : 10 < B.length) (hl2 : B.length ≤ 50) (hf : R.length ≤ 20) (k : Nat) (hk : k ≤ 6) :
    callN G (n + 8) 29 [.int p, pl R, pl B, .int (k : Nat)] m = .ex (eTM 10) m := by
  have hr0 := (hR r0 (List.mem_of_getElem? h0)).1
  have c11 := c_11g (n + 4) p hp w (by omega) m R r0 h0 (by omega) hR (pl R) (.inl rfl)
  have c15 := c_15g (n + 4) p w m R r0 h0 hr0 B hB (by omega) (pl B) (.inl rfl)
  have c10 := c_10t n p hp m w (by omega) R B r0 h0 hR hB hl hl2 hf (pl R) (pl B) (.inl rfl) (.inl rfl)
  have c13 := c_13 (n + 6) k m
  have k0 : (0 : Int) ≤ (k : Int) := by omega
  have k6 : (k : Int) ≤ 6 := by omega
  rw [o_29]
  simp -implicitDefEqProofs [↓evS_for, ↓evE_lc, evSs, evS, evE, evEs, evP, evPs, evI, evB, evBor, evBand, evO, evOB, evAnd, bindT, wipeS, b_29, c11, c15, c10, c13, k0, k6]
end K94
end

section
set_option Elab.async false
set_option linter.all false
set_option maxRecDepth 100000
set_option maxHeartbeats 4000000
namespace K94
open PySem PySem.Spec PyProof.Rows Dp
abbrev rf (x : Str) (i : Int) : R SV → Mu → Prop := fun r m => r = .ok (.own (.lst [.str x, .int i])) m
theorem c_35n (n : Nat) (m : Mu) (a b c d : D) (i : Int) (h : callN G n 29 [a, b, c, d] m = .ex (eBN i) m) : callN G (n + 1) 35 [a, b, c, d] m = .ok (.own (.lst [.str "number", .int i])) m := by
  rw [o_35]
  simp -implicitDefEqProofs [↓evS_for, ↓evE_lc, evSs, evS, evE, evEs, evP, evPs, evI, evB, evBor, evBand, evO, evOB, evAnd, bindT, wipeS, b_35, h]
  rfl
theorem c_35p (n : Nat) (m : Mu) (a b c d : D) (i : Int) (h : callN G n 29 [a, b, c, d] m = .ex (eBP i) m) : callN G (n + 1) 35 [a, b, c, d] m = .ok (.own (.lst [.str "place", .int i])) m := by
  rw [o_35]
  simp -implicitDefEqProofs [↓evS_for, ↓evE_lc, evSs, evS, evE, evEs, evP, evPs, evI, evB, evBor, evBand, evO, evOB, evAnd, bindT, wipeS, b_35, h]
  rfl
theorem c_35t (n : Nat) (m : Mu) (a b c d : D) (i : Int) (h : callN G n 29 [a, b, c, d] m = .ex (eTM i) m) : callN G (n + 1) 35 [a, b, c, d] m = .ok (.own (.lst [.str "limit", .int i])) m := by
  rw [o_35]
  simp -implicitDefEqProofs [↓evS_for, ↓evE_lc, evSs, evS, evE, evEs, evP, evPs, evI, evB, evBor, evBand, evO, evOB, evAnd, bindT, wipeS, b_35, h]
  rfl
theorem c_36p (n : Nat) (m : Mu) (a b c : D) (i : Int) (h : callN G n 10 [a, b, c] m = .ex (eBP i) m) : callN G (n + 1) 36 [a, b, c] m = .ok (.own (.lst [.str "place", .int i])) m := by
  rw [o_36]
  simp -implicitDefEqProofs [↓evS_for, ↓evE_lc, evSs, evS, evE, evEs, evP, evPs, evI, evB, evBor, evBand, evO, evOB, evAnd, bindT, wipeS, b_36, h]
  rfl
theorem c_36t (n : Nat) (m : Mu) (a b c : D) (i : Int) (h : callN G n 10 [a, b, c] m = .ex (eTM i) m) : callN G (n + 1) 36 [a, b, c] m = .ok (.own (.lst [.str "limit", .int i])) m := by
  rw [o_36]
  simp -implicitDefEqProofs [↓evS_for, ↓evE_lc, evSs, evS, evE, evEs, evP, evPs, evI, evB, evBor, evBand, evO, evOB, evAnd, bindT, wipeS, b_36, h]
  rfl
/-- two of these lists beside each other -/
theorem ne_rf (x : Str) (hx : PyData.strOk x = true) (i j : Int) (m : Mu) : opC .ne (.lst [.str x, .int i]) (.lst [.str x, .int j]) m = .ok (.val (.bl (!decide (i = j)))) m := by
  refine c_of ?_
  show (eqD? (.lst [.str x, .int i]) (.lst [.str x, .int j])).map not = _
  have sh : ∀ k : Int, SeqAt.shaped (.list [.str x, .int k]) = true := fun k => by
    simp [SeqAt.shaped, PyData.canLay0, PyData.canLayAll0, PyData.depth, PyData.depthAll, hx]
  have e : eqD? (.lst [.str x, .int i]) (.lst [.str x, .int j]) = some (decide (i = j)) := by
    unfold eqD?
    have p1 : ∀ k : Int, D.py (.lst [.str x, .int k]) = some (.list [.str x, .int k]) := fun k => rfl
    rw [p1, p1]
    dsimp only
    rw [sh, sh, if_pos (by rfl)]
    have e1 : PyData.eqv (.str x) (.str x) = true := by
      show (x == x) = true
      exact beq_self_eq_true x
    simp only [PyData.eqv, PyData.eqvAll, beq_self_eq_true, Bool.true_and, Bool.and_true]
    rfl
  rw [e]
  rfl
theorem so_number : PyData.strOk ("number" : Str) = true := by kernel_rfl
theorem so_place : PyData.strOk ("place" : Str) = true := by kernel_rfl
theorem so_limit : PyData.strOk ("limit" : Str) = true := by kernel_rfl
end K94
end

section
set_option Elab.async false
set_option linter.all false
set_option maxRecDepth 100000
set_option maxHeartbeats 4000000
namespace K94
open PySem PySem.Spec PyProof.Rows Dp
/-- the memory: the draws, and more -/
abbrev MM (ds : List Int) (r : Mu) : Mu := .lst (ds.map .int) :: r
theorem tkr (n : Nat) (many : Int) (hm : 0 < many) (ds : List Int) (r : Mu) : ∃ (v : Int) (ds' : List Int), (0 ≤ v ∧ v < many) ∧ callN G (n + 1) 3 [.ref 0, .int many] (MM ds r) = .ok (.val (.int v)) (MM ds' r) :=
  ⟨_, _, ⟨Int.emod_nonneg _ (by omega), Int.emod_lt_of_pos _ hm⟩, c_3 n many hm ds (MM ds r) r⟩
theorem c_2r (n : Nat) (ds : List Int) (r : Mu) : ∃ (p : Int) (ds' : List Int), (p = 2 ∨ p = 3) ∧ callN G (n + 2) 2 [.ref 0, .int 3] (MM ds r) = .ok (.val (.int p)) (MM ds' r) := by
  obtain ⟨v, d1, ⟨h0, h1⟩, h2⟩ := tkr n 2 (by decide) ds r
  have z6 : (6 : Nat) ≤ sizeLine := szl (by decide)
  have lk := lcL_filterf (m := MM ds r) (F := lcF (callN G (n + 1)) [some (.val (.ref 0)), some (.val (.int 3)), none, none] (.nm 3) (.some (.cmp .le (.e (.var 3)) (.e (.var 1)))) (.var 3)) (fun x : Int => decide (x ≤ 3)) D.int D.int [3, 2, 5, 7, 11, 13] [] (by decide) (fun x hx => by
    by_cases hz : x ≤ 3 <;> simp -implicitDefEqProofs [↓evS_for, ↓evE_lc, evSs, evS, evE, evEs, evP, evPs, evI, evB, evBor, evBand, evO, evOB, evAnd, bindT, wipeS, lcF, hz])
  have e : ([] ++ (([3, 2, 5, 7, 11, 13] : List Int).filter fun x => decide (x ≤ 3)).map D.int) = [.int 3, .int 2] := rfl
  rw [e] at lk
  have e2 : (([3, 2, 5, 7, 11, 13] : List Int).map D.int) = [.int 3, .int 2, .int 5, .int 7, .int 11, .int 13] := rfl
  rw [e2] at lk
  have key : ∀ p, opIx (.lst [.int 3, .int 2]) (.int v) (MM d1 r) = .ok (.val (.int p)) (MM d1 r) → callN G (n + 2) 2 [.ref 0, .int 3] (MM ds r) = .ok (.val (.int p)) (MM d1 r) := fun p hp => by
    rw [o_2]
    simp -implicitDefEqProofs [↓evS_for, ↓evE_lc, evSs, evS, evE, evEs, evP, evPs, evI, evB, evBor, evBand, evO, evOB, evAnd, bindT, wipeS, b_2, z6, lk, h2, hp]
  rcases (by omega : v = 0 ∨ v = 1) with rfl | rfl
  · exact ⟨3, d1, .inr rfl, key 3 rfl⟩
  · exact ⟨2, d1, .inl rfl, key 2 rfl⟩
theorem c_9r (n : Nat) (many : Int) (hm : 0 < many) (ds : List Int) (r : Mu) : ∃ (v : Int) (ds' : List Int), (0 ≤ v ∧ v < many) ∧ callN G (n + 2) 9 [.ref 0, .int many] (MM ds r) = .ok (.val (.int v)) (MM ds' r) := by
  obtain ⟨v, d1, _, h2⟩ := tkr n 30 (by decide) ds r
  obtain ⟨u, d2, _, h4⟩ := tkr n 30 (by decide) d1 r
  refine ⟨(v * 30 + u) % many, d2, ⟨Int.emod_nonneg _ (by omega), Int.emod_lt_of_pos _ hm⟩, ?_⟩
  have b1 := b_mulS (i := v) (j := 30) (m := MM d1 r) (by decide) (by decide)
  have b2 := b_mod (i := v * 30 + u) (j := many) (m := MM d2 r) hm
  rw [o_9]
  simp -implicitDefEqProofs [↓evS_for, ↓evE_lc, evSs, evS, evE, evEs, evP, evPs, evI, evB, evBor, evBand, evO, evOB, evAnd, bindT, wipeS, b_9, h2, b1, h4, b2]
/-- all points, in order -/
def rngI (p : Int) : List Int := (List.range p.toNat).map fun i : Nat => (i : Int)
def apI (p : Int) : Nat → List (List Int)
  | 0 => [[]]
  | w + 1 => (apI p w).flatMap fun x => (rngI p).map fun i => x ++ [i]
theorem ap_len (p : Int) (hp : 0 ≤ p) : ∀ w, (apI p w).length = p.toNat ^ w
  | 0 => rfl
  | w + 1 => by
    unfold apI
    rw [List.length_flatMap]
    have : (apI p w).map (fun x => ((rngI p).map fun i => x ++ [i]).length) = (apI p w).map fun _ => p.toNat := by
      refine List.map_congr_left fun x _ => ?_
      simp [rngI]
    rw [this, List.map_const', List.sum_replicate_nat, ap_len p hp w, Nat.pow_succ]
theorem mem_rng {p x : Int} : x ∈ rngI p ↔ 0 ≤ x ∧ x < p := by
  unfold rngI
  rw [List.mem_map]
  constructor
  · rintro ⟨i, hi, rfl⟩
    have := List.mem_range.mp hi
    omega
  · intro h
    exact ⟨x.toNat, List.mem_range.mpr (by omega), by omega⟩
theorem mem_ap {p : Int} : ∀ {w : Nat} {x : List Int}, x ∈ apI p w ↔ RowP p w x
  | 0, x => by
    unfold apI RowP
    rw [List.mem_singleton]
    constructor
    · rintro rfl
      exact ⟨rfl, fun x hx => nomatch hx⟩
    · intro h
      exact List.eq_nil_of_length_eq_zero h.1
  | w + 1, x => by
    unfold apI
    simp only [List.mem_flatMap, List.mem_map]
    constructor
    · rintro ⟨y, hy, i, hi, rfl⟩
      obtain ⟨h1, h2⟩ := mem_ap.mp hy
      refine ⟨by simp [h1], fun z hz => ?_⟩
      rcases List.mem_append.mp hz with hz | hz
      · exact h2 z hz
      · rw [List.mem_singleton.mp hz]
        exact mem_rng.mp hi
    · rintro ⟨h1, h2⟩
      rcases List.eq_nil_or_concat x with rfl | ⟨y, z, rfl⟩
      · simp at h1
      · refine ⟨y, mem_ap.mpr ⟨by simpa using h1, fun a ha => h2 a (by simp [ha])⟩, z, mem_rng.mpr (h2 z (by simp)), by simp⟩
theorem ap_nd {p : Int} : ∀ w : Nat, (apI p w).Nodup
  | 0 => by simp [apI]
  | w + 1 => by
    unfold apI
    refine List.pairwise_flatMap.mpr ⟨fun x _ => ?_, ?_⟩
    · unfold rngI
      rw [List.map_map, List.pairwise_map]
      refine List.nodup_range.imp fun {a b} hab h => hab ?_
      have h2 : x ++ [(a : Int)] = x ++ [(b : Int)] := h
      injection List.append_cancel_left h2 with h3
      omega
    · refine (ap_nd w).imp fun {a b} hab => ?_
      intro x hx y hy e
      obtain ⟨i, _, rfl⟩ := List.mem_map.mp hx
      obtain ⟨j, _, e2⟩ := List.mem_map.mp hy
      rw [← e2] at e
      exact hab (List.append_inj_left' e rfl)
theorem rng_map (p : Int) (hp : 0 ≤ p) : ((List.range p.toNat).map fun i : Nat => D.int (i : Nat)) = (rngI p).map D.int := by
  unfold rngI
  rw [List.map_map]
  rfl
/-- one point made longer by each number -/
theorem lk_4 (n : Nat) (p : Int) (hp : 0 ≤ p ∧ p ≤ 20) (m : Mu) (w : Nat) (hw : w ≤ 50) (x : List Int) (hx : x.length = w) (a1 a2 a3 a4 : Option SV) (new : List (List Int)) (hn : new = (rngI p).map fun i => x ++ [i]) :
    lcL (lcF (callN G n) [some (.val (.int p)), a1, a2, a3, a4, some (.val (pt x)), none] (.nm 6) .none (.bin .add (.e (.var 5)) (.e (.tup (.cons (.var 6) .nil))))) ((rngI p).map D.int) [] m = .ok (new.map pt) m := by
  have lk := lcL_mapf (m := m) (F := lcF (callN G n) [some (.val (.int p)), a1, a2, a3, a4, some (.val (pt x)), none] (.nm 6) .none (.bin .add (.e (.var 5)) (.e (.tup (.cons (.var 6) .nil))))) D.int (fun i => pt (x ++ [i])) (rngI p) [] (by simp [rngI]; omega) (fun i hi => by
    have ta := tadd (x.map .int) [.int i] m (by simp; omega)
    have e1 : x.map D.int ++ [.int i] = (x ++ [i]).map .int := by simp
    rw [e1] at ta
    have z1 : (1 : Nat) ≤ sizeLine := szl (by decide)
    simp -implicitDefEqProofs [↓evS_for, ↓evE_lc, evSs, evS, evE, evEs, evP, evPs, evI, evB, evBor, evBand, evO, evOB, evAnd, bindT, wipeS, lcF, z1, ta])
  rw [lk, hn, List.map_map]
  rfl
theorem c_4r (n : Nat) (p : Int) (hp : 0 < p ∧ p ≤ 20) (m : Mu) (w : Nat) (hw : w ≤ 40) (h5 : p.toNat ^ w ≤ 500) : callN G (n + 1) 4 [.int p, .int (w : Nat)] m = .ok (.own (.lst ((apI p w).map pt))) m := by
  have inner : ∀ (k : Nat) (a3 : Option SV), k < w → bodyF (callN G n) (.nm 3) l_4_1 (.int (k : Nat)) [some (.val (.int p)), some (.val (.int (w : Nat))), some (.own (.lst ((apI p k).map pt))), none, none, none, none] m = .nx [some (.val (.int p)), some (.val (.int (w : Nat))), some (.own (.lst ((apI p (k + 1)).map pt))), some (.val (.int (k : Nat))), none, none, none] m := fun k a3 hk => by
    have hkl : (apI p (k + 1)).length ≤ 500 := by
      rw [ap_len p (by omega)]
      refine Nat.le_trans (Nat.pow_le_pow_right (by omega) hk) h5
    obtain ⟨b, ⟨h1, _⟩, h2⟩ := forL_ex (fg := [5]) (F := bodyF (callN G n) (.nm 5) l_4_0) pt (fun b : List (List Int) => [some (.val (.int p)), some (.val (.int (w : Nat))), some (.val (pl (apI p k))), some (.val (.int (k : Nat))), some (.own (.lst (b.map pt))), none, none]) (fun _ => m) (fun xs b => b ++ xs.flatMap (fun x => (rngI p).map fun i => x ++ [i]) = apI p (k + 1) ∧ ∀ x ∈ xs, x.length = k)
      (fun x xs b hb => by
        obtain ⟨g1, g2⟩ := hb
        obtain ⟨new, hnew⟩ : ∃ t, t = (rngI p).map fun i => x ++ [i] := ⟨_, rfl⟩
        have lk := lk_4 n p (by omega) m k (by omega) x (g2 x (by simp)) (some (.val (.int (w : Nat)))) (some (.val (pl (apI p k)))) (some (.val (.int (k : Nat)))) (some (.own (.lst (b.map pt)))) new hnew
        have hr := r62_of (n := p) (by omega) (by omega)
        have rm := rng_map p (by omega)
        rw [List.flatMap_cons, ← hnew] at g1
        have la := ladd (b.map pt) (new.map pt) m (by
          have : (b ++ (new ++ xs.flatMap fun x => (rngI p).map fun i => x ++ [i])).length ≤ 500 := by rw [g1]; exact hkl
          simp only [List.length_append] at this
          simp only [List.length_map]
          omega)
        refine ⟨b ++ new, ⟨by rw [← g1, List.append_assoc], fun y hy => g2 y (by simp [hy])⟩, [some (.val (.int p)), some (.val (.int (w : Nat))), some (.val (pl (apI p k))), some (.val (.int (k : Nat))), some (.own (.lst ((b ++ new).map pt))), some (.val (pt x)), none], ?_, rfl⟩
        rw [List.map_append]
        simp -implicitDefEqProofs [↓evS_for, ↓evE_lc, evSs, evS, evE, evEs, evP, evPs, evI, evB, evBor, evBand, evO, evOB, evAnd, bindT, wipeS, bodyF, l_4_0, hr, rm, lk, la])
      (apI p k) [] ⟨rfl, fun x hx => (mem_ap.mp hx).1⟩
    simp only [List.flatMap_nil, List.append_nil] at h1
    subst h1
    simp only [List.map_nil] at h2
    simp -implicitDefEqProofs [↓evS_for, ↓evE_lc, evSs, evS, evE, evEs, evP, evPs, evI, evB, evBor, evBand, evO, evOB, evAnd, bindT, wipeS, bodyF, l_4_1, h2]
  obtain ⟨k, h1, h2⟩ := forL_ex (fg := [3, 4, 5]) (F := bodyF (callN G n) (.nm 3) l_4_1) (fun i : Nat => D.int (i : Nat)) (fun k : Nat => [some (.val (.int p)), some (.val (.int (w : Nat))), some (.own (.lst ((apI p k).map pt))), none, none, none, none]) (fun _ => m) (fun xs k => xs = List.range' k (w - k) ∧ k ≤ w)
    (fun x xs k hb => by
      obtain ⟨g1, g2⟩ := hb
      have hk : k < w := by
        rcases Nat.lt_or_ge k w with h | h
        · exact h
        · rw [Nat.sub_eq_zero_of_le h] at g1
          cases g1
      have e : w - k = (w - (k + 1)) + 1 := by omega
      rw [e, List.range'_succ] at g1
      injection g1 with g3 g4
      subst g3
      exact ⟨x + 1, ⟨g4, by omega⟩, _, inner x none hk, rfl⟩)
    (List.range w) 0 ⟨by rw [List.range_eq_range']; rfl, Nat.zero_le _⟩
  have hkw : k = w := by
    rcases Nat.lt_or_ge k w with h | h
    · have e : w - k = (w - (k + 1)) + 1 := by omega
      have h3 := h1.1
      rw [e, List.range'_succ] at h3
      cases h3
    · omega
  subst hkw
  have z1 : (1 : Nat) ≤ sizeLine := szl (by decide)
  have hr := r62_nat (n := k) (by omega)
  have h2' : forL [3, 4, 5] (bodyF (callN G n) (.nm 3) l_4_1) ((List.range k).map fun i : Nat => D.int (i : Nat)) [some (.val (.int p)), some (.val (.int (k : Nat))), some (.own (.lst [.tup []])), none, none, none, none] m = .nx [some (.val (.int p)), some (.val (.int (k : Nat))), some (.own (.lst ((apI p k).map pt))), none, none, none, none] m := h2
  rw [o_4]
  simp -implicitDefEqProofs [↓evS_for, ↓evE_lc, evSs, evS, evE, evEs, evP, evPs, evI, evB, evBor, evBand, evO, evOB, evAnd, bindT, wipeS, b_4, z1, hr, h2']
end K94
end

section
set_option Elab.async false
set_option linter.all false
set_option maxRecDepth 100000
set_option maxHeartbeats 4000000
namespace K94
open PySem PySem.Spec PyProof.Rows Dp
theorem mm_get (d : List Int) (r : Mu) (c : Cell) : (MM d (r ++ [c]))[r.length + 1]? = some c := by simp [MM]
theorem mm_set (d : List Int) (r : Mu) (c c' : Cell) : (MM d (r ++ [c])).set (r.length + 1) c' = MM d (r ++ [c']) := by simp [MM]
theorem mm_see (d : List Int) (r : Mu) (l : List D) : seeD (MM d (r ++ [.lst l])) (.ref (r.length + 1)) = .lst l := by
  show (match (MM d (r ++ [.lst l]))[r.length + 1]? with | some c => c.fz | none => .ref (r.length + 1)) = _
  rw [mm_get]
  rfl
theorem rs63_nat {n : Nat} (h : n ≤ 1000) : rs63 (n : Int) = true := by
  unfold rs63
  rw [Bool.and_eq_true, decide_eq_true_eq, decide_eq_true_eq]
  omega
theorem er_pt : ∀ (K : Nat) (L : List (List Int)), (L.map pt).eraseIdx K = (L.eraseIdx K).map pt
  | _, [] => rfl
  | 0, _ :: _ => rfl
  | K + 1, x :: L => by
    show pt x :: (L.map pt).eraseIdx K = pt x :: (L.eraseIdx K).map pt
    rw [er_pt K L]
/-- one of the points that are left, drawn -/
theorem pop_left (n : Nat) (d : List Int) (r : Mu) (L : List (List Int)) (hL : 0 < L.length) (hL2 : L.length ≤ 500) :
    ∃ (x : List Int) (k : Nat) (d' : List Int) (m1 m2 m3 : Mu), m1 = MM d (r ++ [.lst (L.map pt)]) ∧ m3 = MM d' (r ++ [.lst ((L.eraseIdx k).map pt)]) ∧ L[k]? = some x ∧ seeD m1 (.ref (r.length + 1)) = .lst (L.map pt) ∧ isML m1 (.ref (r.length + 1)) = true ∧
      callN G (n + 2) 9 [.ref 0, .int (L.length : Nat)] m1 = .ok (.val (.int (k : Nat))) m2 ∧ m2[r.length + 1]? = some (.lst (L.map pt)) ∧ rs63 (k : Int) = true ∧ seqIndex? (k : Int) L.length = some k ∧ (L.map pt)[k]? = some (pt x) ∧ m2.set (r.length + 1) (.lst ((L.map pt).eraseIdx k)) = m3 := by
  obtain ⟨v, d', ⟨v0, v1⟩, c9⟩ := c_9r n (L.length : Int) (by omega) d (r ++ [.lst (L.map pt)])
  obtain ⟨k, rfl⟩ := Int.eq_ofNat_of_zero_le v0
  have hk : k < L.length := by omega
  have g := mm_get d r (.lst (L.map pt))
  refine ⟨L[k], k, d', _, _, _, rfl, rfl, by simp, mm_see d r (L.map pt), ?_, c9, mm_get d' r (.lst (L.map pt)), rs63_nat (n := k) (by omega), ?_, by simp [hk], ?_⟩
  · show (match (MM d (r ++ [.lst (L.map pt)]))[r.length + 1]? with | some (.lst _) => true | _ => false) = true
    rw [g]
  · unfold seqIndex?
    simp
    omega
  · rw [mm_set, er_pt]
end K94
end

section
set_option Elab.async false
set_option linter.all false
set_option maxRecDepth 100000
set_option maxHeartbeats 4000000
namespace K94
open PySem PySem.Spec PyProof.Rows Dp
theorem nd_erase {α : Type} : ∀ {L : List α} {k : Nat} {x : α}, L.Nodup → L[k]? = some x → x ∉ L.eraseIdx k ∧ (L.eraseIdx k).Nodup
  | [], _, _, _, h => by cases h
  | y :: L, 0, x, hn, h => by
    have e : y = x := by simpa using h
    subst e
    exact List.nodup_cons.mp hn
  | y :: L, k + 1, x, hn, h => by
    obtain ⟨h1, h2⟩ := List.nodup_cons.mp hn
    have h3 : L[k]? = some x := by simpa using h
    obtain ⟨q1, q2⟩ := nd_erase h2 h3
    have hx : x ∈ L := List.mem_of_getElem? h3
    show x ∉ y :: L.eraseIdx k ∧ (y :: L.eraseIdx k).Nodup
    refine ⟨fun z => ?_, List.nodup_cons.mpr ⟨fun z => h1 (List.mem_of_mem_eraseIdx z), q2⟩⟩
    rcases List.mem_cons.mp z with e | z
    · exact h1 (e ▸ hx)
    · exact q1 z
/-- the points drawn, and those that are left -/
structure LI (p : Int) (w : Nat) (R L : List (List Int)) : Prop where
  r : ∀ x ∈ R, RowP p w x ∧ x ∉ L
  l : ∀ x ∈ L, RowP p w x
  nd : L.Nodup
  len : L.length ≤ 500
theorem LI.pop {p : Int} {w : Nat} {R L : List (List Int)} (h : LI p w R L) {k : Nat} {x : List Int} (hx : L[k]? = some x) : LI p w (R ++ [x]) (L.eraseIdx k) := by
  obtain ⟨h1, h2⟩ := nd_erase h.nd hx
  refine ⟨fun y hy => ?_, fun y hy => h.l y (List.mem_of_mem_eraseIdx hy), h2, Nat.le_trans (by rw [List.length_eraseIdx]; split <;> omega) h.len⟩
  rcases List.mem_append.mp hy with hy | hy
  · exact ⟨(h.r y hy).1, fun z => (h.r y hy).2 (List.mem_of_mem_eraseIdx z)⟩
  · rw [List.mem_singleton.mp hy]
    exact ⟨h.l x (List.mem_of_getElem? hx), h1⟩
theorem l_5a (n : Nat) (p : Int) (w : Nat) (r : Mu) (x1 x2 x3 : SV) (y7 : Option SV) (L : List (List Int)) (hL : LI p w [] L) (h2 : 2 ≤ L.length) (d : List Int) (many : Nat) (hm : 1 ≤ many ∧ many ≤ 3) (y6 : Option SV) :
    ∃ (R L' : List (List Int)) (d' : List Int) (z6 : Option SV), LI p w R L' ∧ R ≠ [] ∧ R.length ≤ 3 ∧ forL [] (bodyF (callN G (n + 2)) (.nm 6) l_5_0) ((List.range many).map fun i : Nat => D.int (i : Nat)) [some (.val (.ref 0)), some x1, some x2, some x3, some (.val (.ref (r.length + 1))), some (.own (.lst [])), y6, y7] (MM d (r ++ [.lst (L.map pt)])) = .nx [some (.val (.ref 0)), some x1, some x2, some x3, some (.val (.ref (r.length + 1))), some (.own (.lst (R.map pt))), z6, y7] (MM d' (r ++ [.lst (L'.map pt)])) := by
  obtain ⟨⟨R, L', d', z6⟩, ⟨q1, q2, q3⟩, q4⟩ := forL_ex (fg := []) (F := bodyF (callN G (n + 2)) (.nm 6) l_5_0) (fun i : Nat => D.int (i : Nat)) (fun b : List (List Int) × List (List Int) × List Int × Option SV => [some (.val (.ref 0)), some x1, some x2, some x3, some (.val (.ref (r.length + 1))), some (.own (.lst (b.1.map pt))), b.2.2.2, y7]) (fun b => MM b.2.2.1 (r ++ [.lst (b.2.1.map pt)])) (fun xs b => LI p w b.1 b.2.1 ∧ b.1.length + xs.length ≤ 3 ∧ (b.1 = [] → 2 ≤ b.2.1.length ∧ xs ≠ []))
    (fun x xs b hb => by
      obtain ⟨R, L, d, y6⟩ := b
      obtain ⟨g1, g2, g3⟩ := hb
      dsimp only at g1 g2 g3 ⊢
      rw [List.length_cons] at g2
      have sv := mm_see d r (L.map pt)
      have z0 : R.length < sizeLine := szl (n := R.length + 1) (by omega)
      by_cases hlt : (1 : Int) < (L.length : Int)
      · obtain ⟨u, k, d1, m1, m2, m3, f1, f2, e1, e2, e3, e4, e5, e6, e7, e8, e9⟩ := pop_left n d r L (by omega) g1.len
        refine ⟨(R ++ [u], L.eraseIdx k, d1, some (.val (.int (x : Nat)))), ⟨g1.pop e1, by simp; omega, fun z => absurd z (by simp)⟩, [some (.val (.ref 0)), some x1, some x2, some x3, some (.val (.ref (r.length + 1))), some (.own (.lst ((R ++ [u]).map pt))), some (.val (.int (x : Nat))), y7], ?_, rfl⟩
        rw [List.map_append, ← f1, ← f2]
        simp -implicitDefEqProofs [↓evS_for, ↓evE_lc, evSs, evS, evE, evEs, evP, evPs, evI, evB, evBor, evBand, evO, evOB, evAnd, bindT, wipeS, bodyF, l_5_0, e2, hlt, isL, chgO, opM, z0, e3, e4, e5, e6, e7, e8, e9]
      · refine ⟨(R, L, d, some (.val (.int (x : Nat)))), ⟨g1, by dsimp only; omega, fun z => absurd (g3 z).1 (by omega)⟩, [some (.val (.ref 0)), some x1, some x2, some x3, some (.val (.ref (r.length + 1))), some (.own (.lst (R.map pt))), some (.val (.int (x : Nat))), y7], ?_, rfl⟩
        simp -implicitDefEqProofs [↓evS_for, ↓evE_lc, evSs, evS, evE, evEs, evP, evPs, evI, evB, evBor, evBand, evO, evOB, evAnd, bindT, wipeS, bodyF, l_5_0, sv, hlt])
    (List.range many) ([], L, d, y6) ⟨hL, by simp; omega, fun _ => ⟨h2, by simp; omega⟩⟩
  exact ⟨R, L', d', z6, q1, fun z => (q3 z).2 rfl, by simpa using q2, q4⟩
theorem l_5b (n : Nat) (p : Int) (w : Nat) (r : Mu) (x1 x2 x3 : SV) (R L : List (List Int)) (hL : LI p w R L) (d : List Int) (many : Nat) (hm : many ≤ 10) (y6 : Option SV) (y5 : SV) :
    ∃ (B L' : List (List Int)) (d' : List Int) (z6 : Option SV), (∀ x ∈ B, RowP p w x ∧ x ∉ R) ∧ B.length ≤ many ∧ forL [] (bodyF (callN G (n + 2)) (.nm 6) l_5_1) ((List.range many).map fun i : Nat => D.int (i : Nat)) [some (.val (.ref 0)), some x1, some x2, some x3, some (.val (.ref (r.length + 1))), some y5, y6, some (.own (.lst []))] (MM d (r ++ [.lst (L.map pt)])) = .nx [some (.val (.ref 0)), some x1, some x2, some x3, some (.val (.ref (r.length + 1))), some y5, z6, some (.own (.lst (B.map pt)))] (MM d' (r ++ [.lst (L'.map pt)])) := by
  obtain ⟨⟨B, L', d', z6⟩, ⟨q1, q2, q3⟩, q4⟩ := forL_ex (fg := []) (F := bodyF (callN G (n + 2)) (.nm 6) l_5_1) (fun i : Nat => D.int (i : Nat)) (fun b : List (List Int) × List (List Int) × List Int × Option SV => [some (.val (.ref 0)), some x1, some x2, some x3, some (.val (.ref (r.length + 1))), some y5, b.2.2.2, some (.own (.lst (b.1.map pt)))]) (fun b => MM b.2.2.1 (r ++ [.lst (b.2.1.map pt)])) (fun xs b => LI p w R b.2.1 ∧ b.1.length + xs.length ≤ many ∧ ∀ x ∈ b.1, RowP p w x ∧ x ∉ R)
    (fun x xs b hb => by
      obtain ⟨B, L, d, y6⟩ := b
      obtain ⟨g1, g2, g3⟩ := hb
      dsimp only at g1 g2 g3 ⊢
      rw [List.length_cons] at g2
      have sv := mm_see d r (L.map pt)
      have z0 : B.length < sizeLine := szl (n := B.length + 1) (by omega)
      by_cases hlt : 0 < L.length
      · obtain ⟨u, k, d1, m1, m2, m3, f1, f2, e1, e2, e3, e4, e5, e6, e7, e8, e9⟩ := pop_left n d r L (by omega) g1.len
        have hu := List.mem_of_getElem? e1
        have gp := g1.pop e1
        refine ⟨(B ++ [u], L.eraseIdx k, d1, some (.val (.int (x : Nat)))), ⟨⟨fun y hy => gp.r y (by simp [hy]), gp.l, gp.nd, gp.len⟩, by simp; omega, fun y hy => ?_⟩, [some (.val (.ref 0)), some x1, some x2, some x3, some (.val (.ref (r.length + 1))), some y5, some (.val (.int (x : Nat))), some (.own (.lst ((B ++ [u]).map pt)))], ?_, rfl⟩
        · rcases List.mem_append.mp hy with hy | hy
          · exact g3 y hy
          · rw [List.mem_singleton.mp hy]
            exact ⟨g1.l u hu, fun z => (g1.r u z).2 hu⟩
        · rw [List.map_append, ← f1, ← f2]
          simp -implicitDefEqProofs [↓evS_for, ↓evE_lc, evSs, evS, evE, evEs, evP, evPs, evI, evB, evBor, evBand, evO, evOB, evAnd, bindT, wipeS, bodyF, l_5_1, e2, hlt, isL, chgO, opM, z0, e3, e4, e5, e6, e7, e8, e9]
      · refine ⟨(B, L, d, some (.val (.int (x : Nat)))), ⟨g1, by dsimp only; omega, g3⟩, [some (.val (.ref 0)), some x1, some x2, some x3, some (.val (.ref (r.length + 1))), some y5, some (.val (.int (x : Nat))), some (.own (.lst (B.map pt)))], ?_, rfl⟩
        simp -implicitDefEqProofs [↓evS_for, ↓evE_lc, evSs, evS, evE, evEs, evP, evPs, evI, evB, evBor, evBand, evO, evOB, evAnd, bindT, wipeS, bodyF, l_5_1, sv, hlt])
    (List.range many) ([], L, d, y6) ⟨hL, by simp, fun x hx => nomatch hx⟩
  exact ⟨B, L', d', z6, q3, by simpa using q2, q4⟩
end K94
end

section
set_option Elab.async false
set_option linter.all false
set_option maxRecDepth 100000
set_option maxHeartbeats 4000000
namespace K94
open PySem PySem.Spec PyProof.Rows Dp
def s0_1 : S := (.asgM 1 (.call 1 (.cons (.var 0) .nil)))
def s0_2 : S := (.for_ (.nm 2) (.rng1 (.int 3)) l_0_0 [2, 7, 8, 9, 10, 11])
def s0_3 : S := (.ife (.or (.cons (.cmp .ne (.e (.call 10 (.cons (.int 3) (.cons (.lst (.cons (.tup .nil) .nil)) (.cons (.lst .nil) .nil))))) (.e (.tup (.cons (.tup (.cons (.int 0) (.cons (.int 1) .nil))) .nil)))) (.cons (.cmp .ne (.e (.call 10 (.cons (.int 2) (.cons (.lst (.cons (.bin .mul (.e (.tup (.cons (.int 0) .nil))) (.e (.int 20))) .nil)) (.cons (.lst (.cons (.bin .mul (.e (.tup (.cons (.int 1) .nil))) (.e (.int 20))) .nil)) .nil))))) (.e (.tup (.cons (.tup (.cons (.int 20) (.cons (.int 1) .nil))) (.cons (.tup (.cons (.int 19) (.cons (.neg (.int 1)) .nil))) .nil))))) .nil)))
      (.cons (.ret (.bl false))
      .nil)
      .nil)
def s0_4 : S := (.asgM 3 (.call 4 (.cons (.int 2) (.cons (.int 4) .nil))))
def s0_5 : S := (.asg (.nm 4) (.lst (.cons (.mpopI (.var 3) (.call 3 (.cons (.var 1) (.cons (.int 16) .nil)))) .nil)))
def s0_6 : S := (.asg (.nm 5) (.call 3 (.cons (.var 1) (.cons (.int 5) .nil))))
def s0_7 : S := (.asg (.nm 6) (.bin .add (.e (.slc (.e (.var 3)) (.some (.var 5)) .none)) (.e (.slc (.e (.var 3)) .none (.some (.var 5))))))
def s0_8 : S := (.ife (.or (.cons (.cmp .ne (.e (.call 35 (.cons (.int 2) (.cons (.var 4) (.cons (.slc (.e (.var 6)) .none (.some (.int 11))) (.cons (.int 1) .nil)))))) (.e (.lst (.cons (.str "limit") (.cons (.int 10) .nil))))) (.cons (.cmp .ne (.e (.call 36 (.cons (.int 2) (.cons (.var 4) (.cons (.var 6) .nil))))) (.e (.lst (.cons (.str "limit") (.cons (.int 10) .nil))))) .nil)))
      (.cons (.ret (.bl false))
      .nil)
      .nil)
def s0_9 : S := (.ife (.cmp .eq (.e (.call 3 (.cons (.var 1) (.cons (.int 29) .nil)))) (.e (.int 28)))
      (.cons (.ret (.call 34 (.cons (.int 2) (.cons (.int 4) (.cons (.var 4) (.cons (.slc (.e (.var 6)) .none (.some (.int 10))) (.cons (.lst (.cons (.int 2) .nil)) .nil)))))))
      .nil)
      .nil)
def s0_10 : S := (.ret (.call 34 (.cons (.int 3) (.cons (.int 2) (.cons (.lst (.cons (.tup (.cons (.int 0) (.cons (.int 0) .nil))) .nil)) (.cons (.lst (.cons (.tup (.cons (.int 1) (.cons (.int 0) .nil))) (.cons (.tup (.cons (.int 0) (.cons (.int 1) .nil))) (.cons (.tup (.cons (.int 1) (.cons (.int 1) .nil))) (.cons (.tup (.cons (.int 1) (.cons (.int 2) .nil))) .nil))))) (.cons (.lst (.cons (.int 2) .nil)) .nil)))))))
def T0_11 : Ss := .nil
def T0_10 : Ss := .cons s0_10 T0_11
def T0_9 : Ss := .cons s0_9 T0_10
def T0_8 : Ss := .cons s0_8 T0_9
def T0_7 : Ss := .cons s0_7 T0_8
def T0_6 : Ss := .cons s0_6 T0_7
def T0_5 : Ss := .cons s0_5 T0_6
def T0_4 : Ss := .cons s0_4 T0_5
def T0_3 : Ss := .cons s0_3 T0_4
def T0_2 : Ss := .cons s0_2 T0_3
def T0_1 : Ss := .cons s0_1 T0_2
theorem tails0 : b_0 = T0_1 := rfl
def s5_1 : S := (.asg (.nm 2) (.call 2 (.cons (.var 0) (.cons (.int 3) .nil))))
def s5_2 : S := (.asg (.nm 3) (.bin .add (.e (.int 1)) (.e (.call 3 (.cons (.var 0) (.cons (.int 3) .nil))))))
def s5_3 : S := (.ife (.cmp .eq (.e (.call 3 (.cons (.var 0) (.cons (.int 12) .nil)))) (.e (.int 11)))
      (.cons (.asg (.nm 2) (.int 5))
      (.cons (.asg (.nm 3) (.bif .min (.cons (.e (.var 3)) (.cons (.e (.int 2)) .nil))))
      .nil))
      .nil)
def s5_4 : S := (.ife (.cmp .eq (.e (.var 2)) (.e (.int 2)))
      (.cons (.asg (.nm 3) (.bin .add (.e (.var 3)) (.e (.call 3 (.cons (.var 0) (.cons (.int 2) .nil))))))
      .nil)
      .nil)
def s5_5 : S := (.asgM 4 (.call 4 (.cons (.var 2) (.cons (.var 3) .nil))))
def s5_6 : S := (.asgO 5 (.lst .nil))
def s5_7 : S := (.for_ (.nm 6) (.rng1 (.bin .add (.e (.int 1)) (.e (.call 3 (.cons (.var 0) (.cons (.int 3) .nil)))))) l_5_0 [])
def s5_8 : S := (.asgO 7 (.lst .nil))
def s5_9 : S := (.for_ (.nm 6) (.rng1 (.bin .add (.e (.var 1)) (.e (.call 3 (.cons (.var 0) (.cons (.int 3) .nil)))))) l_5_1 [])
def s5_10 : S := (.ife (.and (.cons (.cmp .gt (.e (.bif .len (.cons (.sl 7) .nil))) (.e (.int 0))) (.cons (.cmp .eq (.e (.call 3 (.cons (.var 0) (.cons (.int 4) .nil)))) (.e (.int 3))) .nil)))
      (.cons (.om 7 .append (.cons (.idx (.sl 7) (.int 0)) .nil))
      .nil)
      .nil)
def s5_11 : S := (.gfz 7)
def s5_12 : S := (.gfz 5)
def s5_13 : S := (.ret (.lst (.cons (.var 2) (.cons (.var 3) (.cons (.var 5) (.cons (.var 7) .nil))))))
def T5_14 : Ss := .nil
def T5_13 : Ss := .cons s5_13 T5_14
def T5_12 : Ss := .cons s5_12 T5_13
def T5_11 : Ss := .cons s5_11 T5_12
def T5_10 : Ss := .cons s5_10 T5_11
def T5_9 : Ss := .cons s5_9 T5_10
def T5_8 : Ss := .cons s5_8 T5_9
def T5_7 : Ss := .cons s5_7 T5_8
def T5_6 : Ss := .cons s5_6 T5_7
def T5_5 : Ss := .cons s5_5 T5_6
def T5_4 : Ss := .cons s5_4 T5_5
def T5_3 : Ss := .cons s5_3 T5_4
def T5_2 : Ss := .cons s5_2 T5_3
def T5_1 : Ss := .cons s5_1 T5_2
theorem tails5 : b_5 = T5_1 := rfl
def s34_1 : S := (.asg (.nm 5) (.call 32 (.cons (.var 0) (.cons (.var 1) (.cons (.var 2) (.cons (.var 3) .nil))))))
def s34_2 : S := (.asg (.nm 6) (.lst (.cons (.bif .list (.cons (.e (.var 2)) .nil)) (.cons (.bif .list (.cons (.e (.var 3)) .nil)) .nil))))
def s34_3 : S := (.asg (.nm 7) (.call 10 (.cons (.var 0) (.cons (.idx (.e (.var 6)) (.int 0)) (.cons (.idx (.e (.var 6)) (.int 1)) .nil)))))
def s34_4 : S := (.ife (.or (.cons (.cmp .ne (.e (.var 6)) (.e (.lst (.cons (.bif .list (.cons (.e (.var 2)) .nil)) (.cons (.bif .list (.cons (.e (.var 3)) .nil)) .nil))))) (.cons (.not (.e (.e (.call 33 (.cons (.var 7) (.cons (.bin .add (.e (.var 1)) (.e (.int 1))) .nil)))))) .nil)))
      (.cons (.ret (.bl false))
      .nil)
      .nil)
def s34_5 : S := (.for_ (.nm 8) (.rng1 (.int 7)) l_34_1 [9, 11, 12])
def s34_6 : S := (.for_ (.nm 8) (.seq (.var 4)) l_34_2 [10])
def s34_7 : S := (.ret (.bl true))
def T34_8 : Ss := .nil
def T34_7 : Ss := .cons s34_7 T34_8
def T34_6 : Ss := .cons s34_6 T34_7
def T34_5 : Ss := .cons s34_5 T34_6
def T34_4 : Ss := .cons s34_4 T34_5
def T34_3 : Ss := .cons s34_3 T34_4
def T34_2 : Ss := .cons s34_2 T34_3
def T34_1 : Ss := .cons s34_1 T34_2
theorem tails34 : b_34 = T34_1 := rfl
def s37_1 : S := (.asg (.nm 5) (.lst (.cons (.slc (.e (.idx (.e (.var 3)) (.int 0))) (.some (.int 1)) .none) (.cons (.bin .add (.e (.idx (.e (.var 3)) (.int 0))) (.e (.tup (.cons (.int 0) .nil)))) (.cons (.bin .add (.e (.slc (.e (.idx (.e (.var 3)) (.int 0))) (.some (.int 1)) .none)) (.e (.tup (.cons (.var 1) .nil)))) (.cons (.bin .add (.e (.slc (.e (.idx (.e (.var 3)) (.int 0))) (.some (.int 1)) .none)) (.e (.tup (.cons (.bl true) .nil)))) (.cons .non .nil)))))))
def s37_2 : S := (.asg (.nm 6) (.idx (.e (.var 5)) (.call 3 (.cons (.var 0) (.cons (.int 5) .nil)))))
def s37_3 : S := (.asg (.nm 7) (.bin .add (.e (.call 3 (.cons (.var 0) (.cons (.bif .len (.cons (.e (.var 3)) .nil)) .nil)))) (.e (.int 1))))
def s37_4 : S := (.asg (.nm 8) (.bin .add (.e (.bin .add (.e (.slc (.e (.var 3)) .none (.some (.var 7)))) (.e (.lst (.cons (.var 6) .nil))))) (.e (.slc (.e (.var 3)) (.some (.var 7)) .none))))
def s37_5 : S := (.for_ (.nm 9) (.seq (.lst (.cons (.lst .nil) (.cons .non (.cons (.int 5) .nil))))) l_37_0 [9])
def s37_6 : S := (.ife (.cmp .ne (.e (.call 36 (.cons (.var 1) (.cons (.var 8) (.cons .non .nil))))) (.e (.lst (.cons (.str "place") (.cons (.var 7) .nil)))))
      (.cons (.ret (.bl false))
      .nil)
      .nil)
def s37_7 : S := (.ife (.cmp .ne (.e (.call 36 (.cons (.var 1) (.cons (.var 3) (.cons .non .nil))))) (.e (.lst (.cons (.str "place") (.cons (.neg (.int 1)) .nil)))))
      (.cons (.ret (.bl false))
      .nil)
      .nil)
def s37_8 : S := (.asg (.nm 10) (.call 3 (.cons (.var 0) (.cons (.bin .add (.e (.bif .len (.cons (.e (.var 4)) .nil))) (.e (.int 1))) .nil))))
def s37_9 : S := (.ife (.cmp .ne (.e (.call 36 (.cons (.var 1) (.cons (.bif .tuple (.cons (.e (.var 3)) .nil)) (.cons (.bin .add (.e (.bin .add (.e (.slc (.e (.var 4)) .none (.some (.var 10)))) (.e (.lst (.cons (.var 6) .nil))))) (.e (.slc (.e (.var 4)) (.some (.var 10)) .none))) .nil))))) (.e (.lst (.cons (.str "place") (.cons (.var 10) .nil)))))
      (.cons (.ret (.bl false))
      .nil)
      .nil)
def s37_10 : S := (.ret (.cmp .eq (.e (.call 10 (.cons (.var 1) (.cons (.bin .add (.e (.var 3)) (.e (.slc (.e (.var 3)) .none (.some (.int 1))))) (.cons (.var 4) .nil))))) (.e (.call 10 (.cons (.var 1) (.cons (.var 3) (.cons (.var 4) .nil)))))))
def T37_11 : Ss := .nil
def T37_10 : Ss := .cons s37_10 T37_11
def T37_9 : Ss := .cons s37_9 T37_10
def T37_8 : Ss := .cons s37_8 T37_9
def T37_7 : Ss := .cons s37_7 T37_8
def T37_6 : Ss := .cons s37_6 T37_7
def T37_5 : Ss := .cons s37_5 T37_6
def T37_4 : Ss := .cons s37_4 T37_5
def T37_3 : Ss := .cons s37_3 T37_4
def T37_2 : Ss := .cons s37_2 T37_3
def T37_1 : Ss := .cons s37_1 T37_2
theorem tails37 : b_37 = T37_1 := rfl
end K94
end

section
set_option Elab.async false
set_option linter.all false
set_option maxRecDepth 100000
set_option maxHeartbeats 4000000
namespace K94
open PySem PySem.Spec PyProof.Rows Dp
theorem tkn (n : Nat) (many : Int) (hm : 0 < many) (ds : List Int) (r : Mu) : ∃ (v : Nat) (ds' : List Int), ((v : Int) < many) ∧ callN G (n + 1) 3 [.ref 0, .int many] (MM ds r) = .ok (.val (.int (v : Nat))) (MM ds' r) := by
  obtain ⟨v, d, h, e⟩ := tkr n many hm ds r
  obtain ⟨k, rfl⟩ := Int.eq_ofNat_of_zero_le h.1
  exact ⟨k, d, h.2, e⟩
/-- the primes and sizes of the law -/
def PW (p : Int) (w : Nat) : Prop := (p = 2 ∧ 1 ≤ w ∧ w ≤ 4) ∨ (p = 3 ∧ 1 ≤ w ∧ w ≤ 3) ∨ (p = 5 ∧ 1 ≤ w ∧ w ≤ 2)
theorem g5_a (n : Nat) (d : List Int) (r : Mu) (x1 : SV) : ∃ (p : Int) (w : Nat) (d' : List Int), PW p w ∧
    evSs G (callN G (n + 2)) T5_1 [some (.val (.ref 0)), some x1, none, none, none, none, none, none] (MM d r) = evSs G (callN G (n + 2)) T5_5 [some (.val (.ref 0)), some x1, some (.val (.int p)), some (.val (.int (w : Nat))), none, none, none, none] (MM d' r) := by
  obtain ⟨p, d1, hp, c2⟩ := c_2r n d r
  obtain ⟨v, d2, hv, t1⟩ := tkn (n + 1) 3 (by decide) d1 r
  obtain ⟨u, d3, hu, t2⟩ := tkn (n + 1) 12 (by decide) d2 r
  obtain ⟨y, d4, hy, t3⟩ := tkn (n + 1) 2 (by decide) d3 r
  have e1 : (1 : Int) + (v : Int) = ((1 + v : Nat) : Int) := by omega
  by_cases h11 : (u : Int) = 11
  · have n5 : ¬ ((5 : Int) = 2) := by decide
    refine ⟨5, min (1 + v) 2, d3, .inr (.inr ⟨rfl, by omega, by omega⟩), ?_⟩
    have e2 : (if (2 : Int) < ((1 + v : Nat) : Int) then (2 : Int) else ((1 + v : Nat) : Int)) = ((min (1 + v) 2 : Nat) : Int) := by split <;> omega
    obtain ⟨W, hW⟩ : ∃ t, t = min (1 + v) 2 := ⟨_, rfl⟩
    obtain ⟨W1, hW1⟩ : ∃ t, t = 1 + v := ⟨_, rfl⟩
    rw [← hW] at e2 ⊢
    rw [← hW1] at e1 e2
    simp -implicitDefEqProofs [↓evS_for, ↓evE_lc, evSs, evS, evE, evEs, evP, evPs, evI, evB, evBor, evBand, evO, evOB, evAnd, bindT, wipeS, T5_1, T5_2, T5_3, T5_4, s5_1, s5_2, s5_3, s5_4, c2, t1, e1, t2, h11, n5, e2]
  · rcases hp with rfl | rfl
    · refine ⟨2, 1 + v + y, d4, .inl ⟨rfl, by omega, by omega⟩, ?_⟩
      obtain ⟨W1, hW1⟩ : ∃ t, t = 1 + v := ⟨_, rfl⟩
      rw [← hW1] at e1 ⊢
      have e3 : (W1 : Int) + (y : Int) = ((W1 + y : Nat) : Int) := by omega
      obtain ⟨W, hW⟩ : ∃ t, t = W1 + y := ⟨_, rfl⟩
      rw [← hW] at e3 ⊢
      simp -implicitDefEqProofs [↓evS_for, ↓evE_lc, evSs, evS, evE, evEs, evP, evPs, evI, evB, evBor, evBand, evO, evOB, evAnd, bindT, wipeS, T5_1, T5_2, T5_3, T5_4, s5_1, s5_2, s5_3, s5_4, c2, t1, e1, t2, h11, t3, e3]
    · have n3 : ¬ ((3 : Int) = 2) := by decide
      refine ⟨3, 1 + v, d3, .inr (.inl ⟨rfl, by omega, by omega⟩), ?_⟩
      obtain ⟨W1, hW1⟩ : ∃ t, t = 1 + v := ⟨_, rfl⟩
      rw [← hW1] at e1 ⊢
      simp -implicitDefEqProofs [↓evS_for, ↓evE_lc, evSs, evS, evE, evEs, evP, evPs, evI, evB, evBor, evBand, evO, evOB, evAnd, bindT, wipeS, T5_1, T5_2, T5_3, T5_4, s5_1, s5_2, s5_3, s5_4, c2, t1, e1, t2, h11, n3]
end K94
end

section
set_option Elab.async false
set_option linter.all false
set_option maxRecDepth 100000
set_option maxHeartbeats 4000000
namespace K94
open PySem PySem.Spec PyProof.Rows Dp
theorem PW.b {p : Int} {w : Nat} (h : PW p w) : Pr p ∧ 1 < p ∧ p ≤ 5 ∧ 1 ≤ w ∧ w ≤ 4 := by
  unfold Pr
  rcases h with ⟨rfl, h⟩ | ⟨rfl, h⟩ | ⟨rfl, h⟩ <;> omega
theorem PW.pow {p : Int} {w : Nat} (h : PW p w) : p.toNat ^ (w + 1) ≤ 125 ∧ 2 ≤ p.toNat ^ w ∧ p.toNat ^ w ≤ 125 := by
  rcases h with ⟨rfl, h⟩ | ⟨rfl, h⟩ | ⟨rfl, h⟩
  · rcases (by omega : w = 1 ∨ w = 2 ∨ w = 3 ∨ w = 4) with rfl | rfl | rfl | rfl <;> decide
  · rcases (by omega : w = 1 ∨ w = 2 ∨ w = 3) with rfl | rfl | rfl <;> decide
  · rcases (by omega : w = 1 ∨ w = 2) with rfl | rfl <;> decide
theorem g5_b (n : Nat) (d : List Int) (r : Mu) (t : Nat) (ht : t ≤ 2) (p : Int) (w : Nat) (hpw : PW p w) : ∃ (R B L' : List (List Int)) (d' : List Int) (z6 : Option SV), (∀ x ∈ R, RowP p w x) ∧ R ≠ [] ∧ R.length ≤ 3 ∧ (∀ x ∈ B, RowP p w x ∧ x ∉ R) ∧ B.length ≤ 4 ∧
    evSs G (callN G (n + 2)) T5_5 [some (.val (.ref 0)), some (.val (.int (t : Nat))), some (.val (.int p)), some (.val (.int (w : Nat))), none, none, none, none] (MM d r) = evSs G (callN G (n + 2)) T5_10 [some (.val (.ref 0)), some (.val (.int (t : Nat))), some (.val (.int p)), some (.val (.int (w : Nat))), some (.val (.ref (r.length + 1))), some (.own (.lst (R.map pt))), z6, some (.own (.lst (B.map pt)))] (MM d' (r ++ [.lst (L'.map pt)])) := by
  obtain ⟨b1, b2, b3, b4, b5⟩ := hpw.b
  obtain ⟨w1, w2, w3⟩ := hpw.pow
  have c4 := c_4r (n + 1) p (by omega) (MM d r) w (by omega) (by omega)
  have hL : LI p w [] (apI p w) := ⟨(fun x hx => nomatch hx), (fun x hx => mem_ap.mp hx), ap_nd w, by rw [ap_len p (by omega)]; omega⟩
  have hL2 : 2 ≤ (apI p w).length := by rw [ap_len p (by omega)]; omega
  obtain ⟨v, d1, hv, t1⟩ := tkn (n + 1) 3 (by decide) d (r ++ [.lst ((apI p w).map pt)])
  obtain ⟨R, L1, d2, z6, q1, q2, q3, q4⟩ := l_5a n p w r (.val (.int (t : Nat))) (.val (.int p)) (.val (.int (w : Nat))) none (apI p w) hL hL2 d1 (1 + v) (by omega) none
  obtain ⟨u, d3, hu, t2⟩ := tkn (n + 1) 3 (by decide) d2 (r ++ [.lst (L1.map pt)])
  obtain ⟨B, L2, d4, y6, k1, k2, k3⟩ := l_5b n p w r (.val (.int (t : Nat))) (.val (.int p)) (.val (.int (w : Nat))) R L1 q1 d3 (t + u) (by omega) z6 (.own (.lst (R.map pt)))
  refine ⟨R, B, L2, d4, y6, fun x hx => (q1.r x hx).1, q2, q3, k1, by omega, ?_⟩
  have e1 : (1 : Int) + (v : Int) = ((1 + v : Nat) : Int) := by omega
  have e2 : (t : Int) + (u : Int) = ((t + u : Nat) : Int) := by omega
  obtain ⟨V, hV⟩ : ∃ z, z = 1 + v := ⟨_, rfl⟩
  obtain ⟨U, hU⟩ : ∃ z, z = t + u := ⟨_, rfl⟩
  have r1 := r62_nat (n := V) (by omega)
  have r2 := r62_nat (n := U) (by omega)
  rw [← hV] at e1 q4
  rw [← hU] at e2 k3
  generalize apI p w = L at *
  obtain ⟨m1, hm1⟩ : ∃ z, z = MM d (r ++ [.lst (L.map pt)]) := ⟨_, rfl⟩
  have hm1' : MM d r ++ [.lst (L.map pt)] = m1 := by rw [hm1]; rfl
  obtain ⟨m2, hm2⟩ : ∃ z, z = MM d1 (r ++ [.lst (L.map pt)]) := ⟨_, rfl⟩
  obtain ⟨m3, hm3⟩ : ∃ z, z = MM d2 (r ++ [.lst (L1.map pt)]) := ⟨_, rfl⟩
  obtain ⟨m4, hm4⟩ : ∃ z, z = MM d3 (r ++ [.lst (L1.map pt)]) := ⟨_, rfl⟩
  obtain ⟨m5, hm5⟩ : ∃ z, z = MM d4 (r ++ [.lst (L2.map pt)]) := ⟨_, rfl⟩
  have hlen : (MM d r).length = r.length + 1 := rfl
  obtain ⟨m0, hm0⟩ : ∃ z, z = MM d r := ⟨_, rfl⟩
  rw [← hm0] at hm1' hlen c4 ⊢
  rw [← hm1, ← hm2] at t1
  rw [← hm2, ← hm3] at q4
  rw [← hm3, ← hm4] at t2
  rw [← hm4, ← hm5] at k3
  rw [← hm5]
  clear hm0 hm1 hm2 hm3 hm4 hm5
  simp -implicitDefEqProofs [↓evS_for, ↓evE_lc, evSs, evS, evE, evEs, evP, evPs, evI, evB, evBor, evBand, evO, evOB, evAnd, bindT, wipeS, T5_5, T5_6, T5_7, T5_8, T5_9, s5_5, s5_6, s5_7, s5_8, s5_9, c4, hm1', hlen, t1, e1, r1, q4, t2, e2, r2, k3]
theorem c_5r (n : Nat) (d : List Int) (r : Mu) (t : Nat) (ht : t ≤ 2) : ∃ (p : Int) (w : Nat) (R B L' : List (List Int)) (d' : List Int), PW p w ∧ (∀ x ∈ R, RowP p w x) ∧ R ≠ [] ∧ R.length ≤ 3 ∧ (∀ x ∈ B, RowP p w x ∧ x ∉ R) ∧ B.length ≤ 5 ∧
    callN G (n + 3) 5 [.ref 0, .int (t : Nat)] (MM d r) = .ok (.own (.lst [.int p, .int (w : Nat), pl R, pl B])) (MM d' (r ++ [.lst (L'.map pt)])) := by
  obtain ⟨p, w, d1, hpw, e1⟩ := g5_a n d r (.val (.int (t : Nat)))
  obtain ⟨R, B, L', d2, z6, q1, q2, q3, q4, q5, e2⟩ := g5_b n d1 r t ht p w hpw
  have z4 : (4 : Nat) ≤ sizeLine := szl (by decide)
  have z0 : B.length < sizeLine := szl (n := B.length + 1) (by omega)
  rw [o_5, tails5, e1, e2]
  by_cases hB : 0 < B.length
  · obtain ⟨v, d3, hv, t1⟩ := tkn (n + 1) 4 (by decide) d2 (r ++ [.lst (L'.map pt)])
    obtain ⟨m1, hm1⟩ : ∃ z, z = MM d2 (r ++ [.lst (L'.map pt)]) := ⟨_, rfl⟩
    obtain ⟨m2, hm2⟩ : ∃ z, z = MM d3 (r ++ [.lst (L'.map pt)]) := ⟨_, rfl⟩
    by_cases h3 : (v : Int) = 3
    · obtain ⟨b0, hb0⟩ : ∃ b0, B[0]? = some b0 := ⟨B[0], by simp [hB]⟩
      have hb := List.mem_of_getElem? hb0
      have ix : opIx (.lst (B.map pt)) (.int 0) m2 = .ok (.val (pt b0)) m2 := ix_pl (i := 0) hb0
      refine ⟨p, w, R, B ++ [b0], L', d3, hpw, q1, q2, q3, fun x hx => ?_, by simp; omega, ?_⟩
      · rcases List.mem_append.mp hx with hx | hx
        · exact q4 x hx
        · rw [List.mem_singleton.mp hx]
          exact q4 b0 hb
      · rw [show pl (B ++ [b0]) = .lst (B.map pt ++ [pt b0]) from by rw [pl, List.map_append]; rfl, ← hm1, ← hm2]
        rw [← hm1, ← hm2] at t1
        clear hm1 hm2
        simp -implicitDefEqProofs [↓evS_for, ↓evE_lc, evSs, evS, evE, evEs, evP, evPs, evI, evB, evBor, evBand, evO, evOB, evAnd, bindT, wipeS, T5_10, T5_11, T5_12, T5_13, T5_14, s5_10, s5_11, s5_12, s5_13, hB, t1, h3, ix, isL, chgO, opM, z0, z4]
    · refine ⟨p, w, R, B, L', d3, hpw, q1, q2, q3, q4, by omega, ?_⟩
      rw [← hm1, ← hm2]
      rw [← hm1, ← hm2] at t1
      clear hm1 hm2
      simp -implicitDefEqProofs [↓evS_for, ↓evE_lc, evSs, evS, evE, evEs, evP, evPs, evI, evB, evBor, evBand, evO, evOB, evAnd, bindT, wipeS, T5_10, T5_11, T5_12, T5_13, T5_14, s5_10, s5_11, s5_12, s5_13, hB, t1, h3, z4]
  · refine ⟨p, w, R, B, L', d2, hpw, q1, q2, q3, q4, by omega, ?_⟩
    obtain ⟨m1, hm1⟩ : ∃ z, z = MM d2 (r ++ [.lst (L'.map pt)]) := ⟨_, rfl⟩
    rw [← hm1]
    clear hm1
    simp -implicitDefEqProofs [↓evS_for, ↓evE_lc, evSs, evS, evE, evEs, evP, evPs, evI, evB, evBor, evBand, evO, evOB, evAnd, bindT, wipeS, T5_10, T5_11, T5_12, T5_13, T5_14, s5_10, s5_11, s5_12, s5_13, hB, z4]
end K94
end

section
set_option Elab.async false
set_option linter.all false
set_option maxRecDepth 100000
set_option maxHeartbeats 4000000
namespace K94
open PySem PySem.Spec PyProof.Rows Dp
/-- a sum as a row: its numbers, then its constant -/
def dotI (u x : List Int) : Nat → Int
  | 0 => 0
  | n + 1 => dotI u x n + ga u n * ga x n
def prs (u : List Int) (w : Nat) : List (Nat × Int) := ((List.range w).filter fun i => decide (ga u i ≠ 0)).map fun i => (i, ga u i)
def uD (u : List Int) (w : Nat) : D := .tup [.int (ga u w), .tup ((prs u w).map fun q => .tup [.int (q.1 : Nat), .int q.2])]
def svI (p : Int) (w : Nat) (u x : List Int) : Int := (ga u w + dotI u x w) % p
theorem prs_sum (u x : List Int) (c : Int) : ∀ w : Nat, (prs u w).foldl (fun (t : Int) q => t + q.2 * ga x q.1) c = c + dotI u x w
  | 0 => by
    show c = c + 0
    omega
  | w + 1 => by
    unfold prs
    rw [List.range_succ, List.filter_append, List.map_append, List.foldl_append]
    have ih := prs_sum u x c w
    unfold prs at ih
    rw [ih]
    show _ = c + (dotI u x w + ga u w * ga x w)
    by_cases h : ga u w = 0
    · have e : [w].filter (fun i => decide (ga u i ≠ 0)) = [] := by simp [h]
      rw [e, h]
      simp
    · have e : [w].filter (fun i => decide (ga u i ≠ 0)) = [w] := by simp [h]
      rw [e]
      simp
      omega
theorem ga_take {u : List Int} {w i : Nat} (h : i < w) : ga (u.take w) i = ga u i := by
  unfold ga
  rw [List.getD_eq_getElem?_getD, List.getD_eq_getElem?_getD, List.getElem?_take_of_lt h]
theorem c_7r (n : Nat) (p : Int) (hp : 0 < p) (m : Mu) (w : Nat) (hw : w ≤ 50) (u : List Int) (hu : RowP p (w + 1) u) : callN G (n + 1) 7 [.int p, .int (ga u w), .tup ((u.take w).map .int)] m = .ok (.val (uD u w)) m := by
  rw [o_7]
  have z2 : (2 : Nat) ≤ sizeLine := szl (by decide)
  have hl : (u.take w).length = w := by rw [List.length_take, hu.1]; omega
  obtain ⟨T, hT⟩ : ∃ t, t = (u.take w).map D.int := ⟨_, rfl⟩
  have hl2 : T.length = w := by rw [hT, List.length_map]; exact hl
  have hix : ∀ i, i < w → opIx (.tup T) (.int (i : Nat)) m = .ok (.val (.int (ga u i))) m := fun i hi' => ix_tup (by omega) (by
    rw [hT, Int.toNat_natCast, List.getElem?_map, List.getElem?_eq_getElem (by omega), ← ga_take hi']
    simp [ga, List.getD_eq_getElem?_getD, List.getElem?_eq_getElem (show i < (u.take w).length by omega)])
  rw [← hT]
  clear hT
  have lk := lcL_filterf (m := m) (F := lcF (callN G n) [some (.val (.int p)), some (.val (.int (ga u w))), some (.val (.tup T)), none, none] (.nm 4) (.some (.cmp .ne (.e (.bin .mod (.e (.bif .int (.cons (.e (.idx (.e (.var 2)) (.var 4))) .nil))) (.e (.var 0)))) (.e (.int 0)))) (.tup (.cons (.var 4) (.cons (.bin .mod (.e (.bif .int (.cons (.e (.idx (.e (.var 2)) (.var 4))) .nil))) (.e (.var 0))) .nil)))) (fun i => decide (ga u i ≠ 0)) (fun i : Nat => D.int (i : Nat)) (fun i => D.tup [.int (i : Nat), .int (ga u i)]) (List.range w) [] (by simp; omega) (fun i hi => by
    have hi' := List.mem_range.mp hi
    have g := ga_mem hu (j := i) (by omega)
    have ix := hix i hi'
    have b := b_mod (i := ga u i) (j := p) (m := m) hp
    rw [Int.emod_eq_of_lt g.1 g.2] at b
    by_cases hz : ga u i = 0
    · rw [hz] at b ix
      simp -implicitDefEqProofs [↓evS_for, ↓evE_lc, evSs, evS, evE, evEs, evP, evPs, evI, evB, evBor, evBand, evO, evOB, evAnd, bindT, wipeS, lcF, ix, b, hz]
    · simp -implicitDefEqProofs [↓evS_for, ↓evE_lc, evSs, evS, evE, evEs, evP, evPs, evI, evB, evBor, evBand, evO, evOB, evAnd, bindT, wipeS, lcF, ix, b, hz, z2])
  have hr := r62_nat (n := w) (by omega)
  have g := ga_mem hu (j := w) (by omega)
  have b := b_mod (i := ga u w) (j := p) (m := m) hp
  rw [Int.emod_eq_of_lt g.1 g.2] at b
  have e : uD u w = .tup [.int (ga u w), .tup (((List.range w).filter fun i => decide (ga u i ≠ 0)).map fun i => .tup [.int (i : Nat), .int (ga u i)])] := by
    unfold uD prs
    rw [List.map_map]
    rfl
  rw [e]
  simp -implicitDefEqProofs [↓evS_for, ↓evE_lc, evSs, evS, evE, evEs, evP, evPs, evI, evB, evBor, evBand, evO, evOB, evAnd, bindT, wipeS, b_7, hl2, hr, lk, b, z2]
theorem c_8r (n : Nat) (p : Int) (hp : 0 < p ∧ p ≤ 100) (m : Mu) (w : Nat) (u x : List Int) (hu : RowP p (w + 1) u) (hx : RowP p w x) : callN G (n + 1) 8 [.int p, uD u w, pt x] m = .ok (.val (.int (svI p w u x))) m := by
  rw [o_8]
  unfold uD
  have key := forL_runf (m := m) (fg := [4, 5]) (F := bodyF (callN G n) (.tp [4, 5]) l_8_0) (fun q : Nat × Int => D.tup [.int (q.1 : Nat), .int q.2]) (fun t : Int => [some (.val (.int p)), some (.val (uD u w)), some (.val (pt x)), some (.val (.int t)), none, none]) (fun t q => t + q.2 * ga x q.1) (fun _ => True) (prs u w) (ga u w) trivial (fun t q hq _ => by
    unfold prs at hq
    obtain ⟨i, hi, rfl⟩ := List.mem_map.mp hq
    have hi' := List.mem_range.mp (List.mem_filter.mp hi).1
    have g := ga_mem hx (j := i) hi'
    have ix : opIx (pt x) (.int (i : Nat)) m = .ok (.val (.int (ga x i))) m := ix_tup (by omega) (by
      have : i < x.length := by rw [hx.1]; exact hi'
      simp [ga, List.getD_eq_getElem?_getD, this])
    have b := b_mulS (i := ga u i) (j := ga x i) (m := m) (by omega) (by omega)
    refine ⟨trivial, [some (.val (.int p)), some (.val (uD u w)), some (.val (pt x)), some (.val (.int (t + ga u i * ga x i))), some (.val (.int (i : Nat))), some (.val (.int (ga u i)))], ?_, rfl⟩
    simp -implicitDefEqProofs [↓evS_for, ↓evE_lc, evSs, evS, evE, evEs, evP, evPs, evI, evB, evBor, evBand, evO, evOB, evAnd, bindT, wipeS, bodyF, l_8_0, ix, b])
  rw [prs_sum] at key
  have i0 : ∀ m, opIx (uD u w) (.int 0) m = .ok (.val (.int (ga u w))) m := fun m => ix_tup (by decide) rfl
  have i1 : ∀ m, opIx (uD u w) (.int 1) m = .ok (.val (.tup ((prs u w).map fun q => .tup [.int (q.1 : Nat), .int q.2]))) m := fun m => ix_tup (by decide) rfl
  have b := b_mod (i := ga u w + dotI u x w) (j := p) (m := m) hp.1
  have e : (D.tup [.int (ga u w), .tup ((prs u w).map fun q => .tup [.int (q.1 : Nat), .int q.2])]) = uD u w := rfl
  rw [e]
  have sd : seeD m (uD u w) = uD u w := rfl
  generalize uD u w = U at *
  generalize prs u w = P at *
  unfold svI
  simp -implicitDefEqProofs [↓evS_for, ↓evE_lc, evSs, evS, evE, evEs, evP, evPs, evI, evB, evBor, evBand, evO, evOB, evAnd, bindT, wipeS, b_8, i0, i1, key, b, sd]
end K94
end

section
set_option Elab.async false
set_option linter.all false
set_option maxRecDepth 100000
set_option maxHeartbeats 4000000
namespace K94
open PySem PySem.Spec PyProof.Rows Dp
/-- 0 at all these points -/
def van (p : Int) (w : Nat) (R : List (List Int)) (u : List Int) : Bool := R.all fun x => decide (svI p w u x = 0)
/-- the sums that are 0 at all these points -/
def SS (p : Int) (w : Nat) (R : List (List Int)) : List (List Int) := (apI p (w + 1)).filter (van p w R)
theorem sum_zero : ∀ l : List Int, (∀ x ∈ l, 0 ≤ x) → 0 ≤ l.sum ∧ (l.sum = 0 ↔ ∀ x ∈ l, x = 0)
  | [], _ => by simp
  | x :: l, h => by
    obtain ⟨h1, h2⟩ := sum_zero l fun y hy => h y (by simp [hy])
    have h0 := h x (by simp)
    rw [List.sum_cons]
    refine ⟨by omega, ?_⟩
    simp only [List.mem_cons, forall_eq_or_imp]
    rw [← h2]
    omega
theorem f_sum (l : List Int) (m : Mu) : opF .sum [.lst (l.map .int)] m = .ok (.val (.int l.sum)) m := by
  show (match D.nums (l.map .int) with | some l => R.ok (SV.val (.int l.sum)) m | none => .bad) = _
  rw [nums_ints]
theorem sv_pos {p : Int} (hp : 0 < p) (w : Nat) (u x : List Int) : 0 ≤ svI p w u x := Int.emod_nonneg _ (by omega)
theorem t_27 (n : Nat) (p : Int) (hp : 0 < p ∧ p ≤ 20) (m : Mu) (w : Nat) (hw : w ≤ 40) (R : List (List Int)) (hl : R.length ≤ 100) (hR : ∀ x ∈ R, RowP p w x) (u : List Int) (hu : RowP p (w + 1) u) (acc : List (List Int)) (ha : acc.length < 5000) : ∃ s1, bodyF (callN G (n + 1)) (.nm 4) l_27_0 (pt u) [some (.val (.int p)), some (.val (.int (w : Nat))), some (.val (pl R)), some (.own (.lst (acc.map fun u => uD u w))), none, none, none, none] m = .nx s1 m ∧
    wipeS s1 [4, 5, 6] = [some (.val (.int p)), some (.val (.int (w : Nat))), some (.val (pl R)), some (.own (.lst ((if van p w R u = true then acc ++ [u] else acc).map fun u => uD u w))), none, none, none, none] := by
  have ix : opIx (pt u) (.int (w : Nat)) m = .ok (.val (.int (ga u w))) m := ix_tup (by omega) (by
    have : w < u.length := by rw [hu.1]; omega
    simp [ga, List.getD_eq_getElem?_getD, this])
  have sl : opSl (pt u) none (some (w : Int)) m = .ok (.val (.tup ((u.take w).map .int))) m := by
    show Dp.R.ok (SV.val (.tup (Dp.cutD (u.map .int) none (some (w : Int))))) m = _
    rw [cut_to, List.map_take]
  have c7 := c_7r n p hp.1 m w (by omega) u hu
  have lk := lcL_mapf (m := m) (F := lcF (callN G (n + 1)) [some (.val (.int p)), some (.val (.int (w : Nat))), some (.val (pl R)), some (.own (.lst (acc.map fun u => uD u w))), some (.val (pt u)), some (.val (uD u w)), none, none] (.nm 7) .none (.call 8 (.cons (.var 0) (.cons (.var 5) (.cons (.var 7) .nil))))) pt (fun x => D.int (svI p w u x)) R [] (by simp; omega) (fun x hx => by
    have c8 := c_8r n p (by omega) m w u x hu (hR x hx)
    generalize uD u w = U at *
    simp -implicitDefEqProofs [↓evS_for, ↓evE_lc, evSs, evS, evE, evEs, evP, evPs, evI, evB, evBor, evBand, evO, evOB, evAnd, bindT, wipeS, lcF, c8])
  have eW : R.map (fun x => D.int (svI p w u x)) = (R.map fun x => svI p w u x).map D.int := by rw [List.map_map]; rfl
  rw [List.nil_append, eW] at lk
  obtain ⟨s1, s2⟩ := sum_zero (R.map fun x => svI p w u x) (fun y hy => by
    obtain ⟨x, _, rfl⟩ := List.mem_map.mp hy
    exact sv_pos hp.1 w u x)
  have hz : van p w R u = true ↔ (R.map fun x => svI p w u x).sum = 0 := by
    unfold van
    rw [s2, List.all_eq_true]
    constructor
    · intro h y hy
      obtain ⟨x, hx, rfl⟩ := List.mem_map.mp hy
      exact of_decide_eq_true (h x hx)
    · intro h x hx
      exact decide_eq_true (h _ (List.mem_map.mpr ⟨x, hx, rfl⟩))
  generalize R.map (fun x => svI p w u x) = W at *
  have fs := f_sum W m
  have z0 : acc.length < sizeLine := szl (n := acc.length + 1) (by omega)
  obtain ⟨TW, hTW⟩ : ∃ t, t = (u.take w).map D.int := ⟨_, rfl⟩
  rw [← hTW] at sl c7
  clear hTW
  have z0' : (acc.map fun u => uD u w).length < sizeLine := by rw [List.length_map]; exact z0
  by_cases h0 : W.sum = 0
  · rw [if_pos (hz.mpr h0), List.map_append]
    refine ⟨[some (.val (.int p)), some (.val (.int (w : Nat))), some (.val (pl R)), some (.own (.lst (acc.map (fun u => uD u w) ++ [uD u w]))), some (.val (pt u)), some (.val (uD u w)), some (.val (.lst (W.map D.int))), none], ?_, rfl⟩
    generalize (acc.map fun u => uD u w) = AC at *
    generalize uD u w = U at *
    simp -implicitDefEqProofs [↓evS_for, ↓evE_lc, evSs, evS, evE, evEs, evP, evPs, evI, evB, evBor, evBand, evO, evOB, evAnd, bindT, wipeS, bodyF, l_27_0, ix, sl, c7, lk, fs, h0, isL, chgO, opM, z0']
  · rw [if_neg fun z => h0 (hz.mp z)]
    refine ⟨[some (.val (.int p)), some (.val (.int (w : Nat))), some (.val (pl R)), some (.own (.lst (acc.map fun u => uD u w))), some (.val (pt u)), some (.val (uD u w)), some (.val (.lst (W.map D.int))), none], ?_, rfl⟩
    generalize (acc.map fun u => uD u w) = AC at *
    generalize uD u w = U at *
    simp -implicitDefEqProofs [↓evS_for, ↓evE_lc, evSs, evS, evE, evEs, evP, evPs, evI, evB, evBor, evBand, evO, evOB, evAnd, bindT, wipeS, bodyF, l_27_0, ix, sl, c7, lk, fs, h0]
theorem c_27r (n : Nat) (p : Int) (hp : 0 < p ∧ p ≤ 20) (m : Mu) (w : Nat) (hw : w ≤ 39) (h5 : p.toNat ^ (w + 1) ≤ 500) (R : List (List Int)) (hl : R.length ≤ 100) (hR : ∀ x ∈ R, RowP p w x) : callN G (n + 2) 27 [.int p, .int (w : Nat), pl R] m = .ok (.own (.lst ((SS p w R).map fun u => uD u w))) m := by
  have c4 := c_4r n p hp m (w + 1) (by omega) h5
  have hlen : (apI p (w + 1)).length ≤ 500 := by rw [ap_len p (by omega)]; exact h5
  obtain ⟨b, ⟨h1, _, _⟩, h2⟩ := forL_ex (fg := [4, 5, 6]) (F := bodyF (callN G (n + 1)) (.nm 4) l_27_0) pt (fun b : List (List Int) => [some (.val (.int p)), some (.val (.int (w : Nat))), some (.val (pl R)), some (.own (.lst (b.map fun u => uD u w))), none, none, none, none]) (fun _ => m) (fun xs b => b ++ xs.filter (van p w R) = SS p w R ∧ (∀ x ∈ xs, RowP p (w + 1) x) ∧ b.length + xs.length ≤ 500)
    (fun x xs b hb => by
      obtain ⟨g1, g2, g3⟩ := hb
      rw [List.length_cons] at g3
      obtain ⟨s1, t1, t2⟩ := t_27 n p hp m w (by omega) R hl hR x (g2 x (by simp)) b (by omega)
      refine ⟨_, ⟨?_, fun y hy => g2 y (by simp [hy]), ?_⟩, s1, t1, t2⟩
      · by_cases h : van p w R x = true
        · rw [List.filter_cons_of_pos h] at g1
          rw [if_pos h, ← g1]
          simp
        · rw [List.filter_cons_of_neg h] at g1
          rw [if_neg h, ← g1]
      · split
        · simp
          omega
        · omega)
    (apI p (w + 1)) [] ⟨rfl, fun x hx => mem_ap.mp hx, by simpa using hlen⟩
  have e : b = SS p w R := by simpa using h1
  subst e
  have e1 : (w : Int) + 1 = ((w + 1 : Nat) : Int) := by omega
  obtain ⟨W, hW⟩ : ∃ t, t = w + 1 := ⟨_, rfl⟩
  rw [← hW] at c4 e1 h2
  have h2' : forL [4, 5, 6] (bodyF (callN G (n + 1)) (.nm 4) l_27_0) ((apI p W).map pt) [some (.val (.int p)), some (.val (.int (w : Nat))), some (.val (pl R)), some (.own (.lst [])), none, none, none, none] m = .nx [some (.val (.int p)), some (.val (.int (w : Nat))), some (.val (pl R)), some (.own (.lst ((SS p w R).map fun u => uD u w))), none, none, none, none] m := h2
  generalize ((SS p w R).map fun u => uD u w) = AC at *
  rw [o_27]
  simp -implicitDefEqProofs [↓evS_for, ↓evE_lc, evSs, evS, evE, evEs, evP, evPs, evI, evB, evBor, evBand, evO, evOB, evAnd, bindT, wipeS, b_27, e1, c4, h2']
end K94
end

section
set_option Elab.async false
set_option linter.all false
set_option maxRecDepth 100000
set_option maxHeartbeats 4000000
namespace K94
open PySem PySem.Spec PyProof.Rows Dp
/-! ### a dict whose keys are rows -/
abbrev LT := List (List Int × Int)
def adG (e : List Int) (v : Int) (f : LT) : LT := if (f.any fun q => decide (q.1 = e)) = true then f.map (fun q => if q.1 = e then (q.1, v) else q) else f ++ [(e, v)]
def coG (f : LT) (e : List Int) : Int := ((f.find? fun q => decide (q.1 = e)).map (·.2)).getD 0
abbrev kyT (e : List Int) : List L2.Key := e.map fun i => Sum.inl i
abbrev dtK (f : LT) : List (List L2.Key) := f.map fun q => kyT q.1
abbrev dtV (f : LT) : List D := f.map fun q => D.int q.2
theorem ky_inj : ∀ {a b : List Int}, kyT a = kyT b → a = b
  | [], [], _ => rfl
  | [], _ :: _, h => by cases h
  | _ :: _, [], h => by cases h
  | x :: a, y :: b, h => by
    injection h with h1 h2
    injection h1 with h1
    rw [h1, ky_inj h2]
theorem ky_eq (a b : List Int) : decide (kyT a = kyT b) = decide (a = b) := by
  rw [Bool.eq_iff_iff, decide_eq_true_eq, decide_eq_true_eq]
  exact ⟨ky_inj, fun h => by rw [h]⟩
theorem any_dt (e : List Int) (f : LT) : ((dtK f).any fun g => decide (g = kyT e)) = f.any fun q => decide (q.1 = e) := by
  rw [List.any_map]
  congr 1
  funext q
  exact ky_eq q.1 e
theorem put_dt (e : List Int) (v : Int) (f : LT) : putKN (kyT e) (dtK f) = dtK (adG e v f) := by
  unfold putKN adG
  rw [any_dt]
  by_cases h : (f.any fun q => decide (q.1 = e)) = true
  · rw [if_pos h, if_pos h]
    show f.map (fun q => kyT q.1) = (f.map fun q => if q.1 = e then (q.1, v) else q).map fun q => kyT q.1
    rw [List.map_map]
    congr 1
    funext q
    show _ = kyT (if q.1 = e then (q.1, v) else q).1
    split <;> rfl
  · rw [if_neg h, if_neg h]
    simp [dtK]
theorem put_dtd (e : List Int) (v : Int) (f : LT) : putKD (kyT e) (.int v) (dtK f) (dtV f) = dtV (adG e v f) := by
  unfold putKD adG
  rw [any_dt]
  by_cases h : (f.any fun q => decide (q.1 = e)) = true
  · rw [if_pos h, if_pos h]
    show ((f.map fun q => kyT q.1).zip (f.map fun q => D.int q.2)).map (fun p => if p.1 = kyT e then D.int v else p.2) = (f.map fun q => if q.1 = e then (q.1, v) else q).map fun q => D.int q.2
    rw [List.map_map, List.zip_map', List.map_map]
    congr 1
    funext q
    show (if kyT q.1 = kyT e then D.int v else D.int q.2) = D.int (if q.1 = e then (q.1, v) else q).2
    by_cases hq : q.1 = e
    · rw [if_pos hq, if_pos (by rw [hq])]
    · rw [if_neg hq, if_neg fun z => hq (ky_inj z)]
  · rw [if_neg h, if_neg h]
    simp [dtV]
theorem val_dt (e : List Int) (f : LT) : valD (dtK f) (dtV f) (kyT e) = (f.find? fun q => decide (q.1 = e)).map fun q => D.int q.2 := by
  unfold valD
  rw [dtK, dtV, List.zip_map', List.find?_map, Option.map_map]
  congr 1
  congr 1
  funext q
  exact ky_eq q.1 e
theorem keysD_pt : ∀ e : List Int, keysD (e.map D.int) = some (kyT e)
  | [] => rfl
  | i :: e => by
    show (keyD (.int i)).bind (fun k => (keysD (e.map D.int)).map fun l => k :: l) = _
    rw [keysD_pt e]
    rfl
theorem dget_dt (e : List Int) (f : LT) : dgetV (.dt (dtK f) (dtV f)) (pt e) (.int 0) = some (.int (coG f e)) := by
  show (keyT (pt e)).map (fun k => (valD (dtK f) (dtV f) k).getD (.int 0)) = _
  have h : keyT (pt e) = some (kyT e) := keysD_pt e
  rw [h]
  show some ((valD (dtK f) (dtV f) (kyT e)).getD (.int 0)) = _
  rw [val_dt]
  unfold coG
  cases f.find? fun q => decide (q.1 = e) <;> rfl
theorem coG_find {f : LT} {e : List Int} (h : e ∈ f.map (·.1)) : (f.find? fun q => decide (q.1 = e)).map (fun q => D.int q.2) = some (.int (coG f e)) := by
  unfold coG
  cases hf : f.find? fun q => decide (q.1 = e) with
  | some q => rfl
  | none =>
    obtain ⟨q, hq, rfl⟩ := List.mem_map.mp h
    have := List.find?_eq_none.mp hf q hq
    simp at this
theorem ix_dt {f : LT} {e : List Int} (h : e ∈ f.map (·.1)) (m : Mu) : opIx (.dt (dtK f) (dtV f)) (pt e) m = .ok (.val (.int (coG f e))) m := by
  show (match keysD (e.map D.int) with | some k => (match valD (dtK f) (dtV f) k with | some d => R.ok (SV.val d) m | none => .bad) | none => .bad) = _
  rw [keysD_pt]
  dsimp only
  rw [val_dt, coG_find h]
theorem set_dt (e : List Int) (v : Int) (f : LT) (h : f.length < sizeLine) : opSet (.dt (dtK f) (dtV f)) (pt e) (.int v) = some (.dt (dtK (adG e v f)) (dtV (adG e v f))) := by
  show (match keysD (e.map D.int) with | some k => if (dtK f).length < sizeLine then some (Cell.dt (putKN k (dtK f)) (putKD k (.int v) (dtK f) (dtV f))) else none | none => none) = _
  rw [keysD_pt]
  dsimp only
  rw [if_pos (by simpa using h), put_dt e v, put_dtd]
/-! ### what is counted -/
def lf (φ : List Int → Int) : LT → Int
  | [] => 0
  | q :: f => φ q.1 * q.2 + lf φ f
theorem lf_app (φ : List Int → Int) : ∀ a b : LT, lf φ (a ++ b) = lf φ a + lf φ b
  | [], b => by simp [lf]
  | q :: a, b => by
    show φ q.1 * q.2 + lf φ (a ++ b) = φ q.1 * q.2 + lf φ a + lf φ b
    rw [lf_app φ a b]
    omega
theorem map_same {e : List Int} {v : Int} {f : LT} (h : ¬ (f.any fun q => decide (q.1 = e)) = true) : (f.map fun q => if q.1 = e then (q.1, v) else q) = f := by
  conv => rhs; rw [← List.map_id f]
  refine List.map_congr_left fun a haf => ?_
  rw [if_neg fun z => h (List.any_eq_true.mpr ⟨a, haf, by simp [z]⟩)]
  rfl
theorem lf_ad (φ : List Int → Int) (e : List Int) (x : Int) : ∀ f : LT, (f.map (·.1)).Nodup → lf φ (adG e (coG f e + x) f) = lf φ f + φ e * x
  | [], _ => by
    unfold adG coG lf
    simp [lf]
  | q :: f, hn => by
    rw [List.map_cons, List.nodup_cons] at hn
    have ih := lf_ad φ e x f hn.2
    unfold adG
    by_cases hq : q.1 = e
    · have ha : ((q :: f).any fun q => decide (q.1 = e)) = true := by simp [hq]
      have hna : ¬ (f.any fun q => decide (q.1 = e)) = true := fun z => by
        obtain ⟨a, ha, he⟩ := List.any_eq_true.mp z
        exact hn.1 (by rw [hq, ← of_decide_eq_true he]; exact List.mem_map.mpr ⟨a, ha, rfl⟩)
      have hc : coG (q :: f) e = q.2 := by
        unfold coG
        simp [hq]
      rw [if_pos ha, List.map_cons, if_pos hq, map_same hna, hc]
      show φ q.1 * (q.2 + x) + lf φ f = φ q.1 * q.2 + lf φ f + φ e * x
      rw [hq, Int.mul_add]
      omega
    · have hc : coG (q :: f) e = coG f e := by
        unfold coG
        simp [hq]
      have hany : ((q :: f).any fun q => decide (q.1 = e)) = f.any fun q => decide (q.1 = e) := by simp [hq]
      rw [hany, hc]
      unfold adG at ih
      by_cases ha : (f.any fun q => decide (q.1 = e)) = true
      · rw [if_pos ha] at ih ⊢
        rw [List.map_cons, if_neg hq]
        show φ q.1 * q.2 + lf φ _ = φ q.1 * q.2 + lf φ f + φ e * x
        rw [ih]
        omega
      · rw [if_neg ha] at ih ⊢
        show φ q.1 * q.2 + lf φ (f ++ _) = φ q.1 * q.2 + lf φ f + φ e * x
        rw [ih]
        omega
theorem nd_adG (e : List Int) (v : Int) (f : LT) (h : (f.map (·.1)).Nodup) : ((adG e v f).map (·.1)).Nodup := by
  unfold adG
  by_cases ha : (f.any fun q => decide (q.1 = e)) = true
  · rw [if_pos ha, List.map_map]
    have : ((·.1) ∘ fun q : List Int × Int => if q.1 = e then (q.1, v) else q) = (·.1) := by
      funext q
      show (if q.1 = e then (q.1, v) else q).1 = q.1
      split <;> rfl
    rw [this]
    exact h
  · rw [if_neg ha, List.map_append, List.nodup_append]
    refine ⟨h, by simp, fun a h1 b h2 => ?_⟩
    simp only [List.map_cons, List.map_nil, List.mem_singleton] at h2
    subst h2
    obtain ⟨q, hq, rfl⟩ := List.mem_map.mp h1
    exact fun z => ha (List.any_eq_true.mpr ⟨q, hq, by simp [z]⟩)
theorem mem_adG (e : List Int) (v : Int) (f : LT) (x : List Int) (h : x ∈ (adG e v f).map (·.1)) : x = e ∨ x ∈ f.map (·.1) := by
  unfold adG at h
  by_cases ha : (f.any fun q => decide (q.1 = e)) = true
  · rw [if_pos ha, List.map_map] at h
    obtain ⟨q, hq, rfl⟩ := List.mem_map.mp h
    refine .inr (List.mem_map.mpr ⟨q, hq, ?_⟩)
    show q.1 = (if q.1 = e then (q.1, v) else q).1
    split <;> rfl
  · rw [if_neg ha] at h
    simp at h ⊢
    rcases h with h | h
    · exact .inr h
    · exact .inl h
theorem val_adG (e : List Int) (v : Int) (f : LT) (q : List Int × Int) (h : q ∈ adG e v f) : q.2 = v ∨ q ∈ f := by
  unfold adG at h
  split at h
  · obtain ⟨a, ha, rfl⟩ := List.mem_map.mp h
    split
    · exact .inl rfl
    · exact .inr ha
  · rcases List.mem_append.mp h with h | h
    · exact .inr h
    · rw [List.mem_singleton.mp h]
      exact .inl rfl
theorem coG_bd {f : LT} {b : Int} (hb : 0 ≤ b) (h : ∀ q ∈ f, 0 ≤ q.2 ∧ q.2 ≤ b) (e : List Int) : 0 ≤ coG f e ∧ coG f e ≤ b := by
  unfold coG
  cases hf : f.find? fun q => decide (q.1 = e) with
  | some q => exact h q (List.mem_of_find?_eq_some hf)
  | none => exact ⟨Int.le_refl 0, hb⟩
theorem lf_co {f : LT} (hn : (f.map (·.1)).Nodup) (e : List Int) : lf (fun x => if x = e then 1 else 0) f = coG f e := by
  induction f with
  | nil => rfl
  | cons q f ih =>
    rw [List.map_cons, List.nodup_cons] at hn
    have ih := ih hn.2
    show (if q.1 = e then (1 : Int) else 0) * q.2 + lf _ f = _
    rw [ih]
    by_cases hq : q.1 = e
    · have hz : coG f e = 0 := by
        unfold coG
        cases hf : f.find? fun q => decide (q.1 = e) with
        | none => rfl
        | some a =>
          have h0 := List.find?_some hf
          have h1 : a.1 = e := by simpa using h0
          exact absurd (by rw [hq, ← h1]; exact List.mem_map.mpr ⟨a, List.mem_of_find?_eq_some hf, rfl⟩) hn.1
      have hc : coG (q :: f) e = q.2 := by
        unfold coG
        simp [hq]
      rw [if_pos hq, hz, hc]
      omega
    · have hc : coG (q :: f) e = coG f e := by
        unfold coG
        simp [hq]
      rw [if_neg hq, hc]
      omega
end K94
end

section
set_option Elab.async false
set_option linter.all false
set_option maxRecDepth 100000
set_option maxHeartbeats 4000000
namespace K94
open PySem PySem.Spec PyProof.Rows Dp
/-- where a sum is 0 among the bad points -/
def mk (p : Int) (w : Nat) (B : List (List Int)) (u : List Int) : List Int := B.map fun x => if svI p w u x = 0 then 1 else 0
@[simp] theorem fz_dt (ks : List (List L2.Key)) (ds : List D) : (Cell.dt ks ds).fz = .dt ks ds := rfl
@[simp] theorem see_dt (m : Mu) (k : List (List L2.Key)) (i : List D) : seeD m (.dt k i) = .dt k i := rfl
theorem l_32a (n : Nat) (p : Int) (hp : 0 < p ∧ p ≤ 20) (m : Mu) (w : Nat) (u : List Int) (hu : RowP p (w + 1) u) (B : List (List Int)) (hB : ∀ x ∈ B, RowP p w x) (hl : B.length ≤ 100) (x1 x2 x3 x4 : SV) (y11 : Option SV) (y6 y7 y8 y9 y12 y13 y14 y15 : Option SV) :
    ∃ z11, forL [] (bodyF (callN G (n + 1)) (.nm 11) l_32_0) (B.map pt) [some (.val (.int p)), some x1, some x2, some x3, some x4, some (.val (uD u w)), y6, y7, y8, y9, some (.own (.lst [])), y11, y12, y13, y14, y15] m = .nx [some (.val (.int p)), some x1, some x2, some x3, some x4, some (.val (uD u w)), y6, y7, y8, y9, some (.own (.lst ((mk p w B u).map D.int))), z11, y12, y13, y14, y15] m := by
  obtain ⟨⟨l, z⟩, ⟨h1, _⟩, h2⟩ := forL_ex (fg := []) (F := bodyF (callN G (n + 1)) (.nm 11) l_32_0) pt (fun b : List Int × Option SV => [some (.val (.int p)), some x1, some x2, some x3, some x4, some (.val (uD u w)), y6, y7, y8, y9, some (.own (.lst (b.1.map D.int))), b.2, y12, y13, y14, y15]) (fun _ => m) (fun xs b => b.1 ++ mk p w xs u = mk p w B u ∧ (∀ x ∈ xs, RowP p w x) ∧ b.1.length + xs.length ≤ 100)
    (fun x xs b hb => by
      obtain ⟨l, z⟩ := b
      obtain ⟨g1, g2, g3⟩ := hb
      dsimp only at g1 g3 ⊢
      rw [List.length_cons] at g3
      have c8 := c_8r n p (by omega) m w u x hu (g2 x (by simp))
      have z0 : l.length < sizeLine := szl (n := l.length + 1) (by omega)
      refine ⟨(l ++ [if svI p w u x = 0 then 1 else 0], some (.val (pt x))), ⟨?_, fun y hy => g2 y (by simp [hy]), by simp; omega⟩, [some (.val (.int p)), some x1, some x2, some x3, some x4, some (.val (uD u w)), y6, y7, y8, y9, some (.own (.lst ((l ++ [if svI p w u x = 0 then 1 else 0]).map D.int))), some (.val (pt x)), y12, y13, y14, y15], ?_, rfl⟩
      · rw [← g1]
        show (l ++ [_]) ++ mk p w xs u = l ++ (_ :: mk p w xs u)
        rw [List.append_assoc]
        rfl
      · rw [List.map_append]
        generalize uD u w = U at *
        by_cases hz : svI p w u x = 0
        · rw [if_pos hz]
          simp -implicitDefEqProofs [↓evS_for, ↓evE_lc, evSs, evS, evE, evEs, evP, evPs, evI, evB, evBor, evBand, evO, evOB, evAnd, bindT, wipeS, bodyF, l_32_0, c8, hz, isL, chgO, opM, z0]
        · rw [if_neg hz]
          simp -implicitDefEqProofs [↓evS_for, ↓evE_lc, evSs, evS, evE, evEs, evP, evPs, evI, evB, evBor, evBand, evO, evOB, evAnd, bindT, wipeS, bodyF, l_32_0, c8, hz, isL, chgO, opM, z0])
    B ([], y11) ⟨rfl, hB, by simpa using hl⟩
  have e : l = mk p w B u := by simpa [mk] using h1
  subst e
  exact ⟨z, h2⟩
/-- the marks, one sum more -/
def addM (f : LT) (k : List Int) : LT := adG k (coG f k + 1) f
theorem l_32b (n : Nat) (p : Int) (hp : 0 < p ∧ p ≤ 20) (m : Mu) (w : Nat) (B : List (List Int)) (hB : ∀ x ∈ B, RowP p w x) (hl : B.length ≤ 100) (x1 x2 : SV) (y5 y10 y11 : Option SV) (us : List (List Int)) (hus : ∀ u ∈ us, RowP p (w + 1) u) (hul : us.length ≤ 5000) :
    ∃ z5 z10 z11, forL [] (bodyF (callN G (n + 1)) (.nm 5) l_32_1) (us.map fun u => uD u w) [some (.val (.int p)), some x1, some x2, some (.val (pl B)), some (.own (.dt [] [])), y5, none, none, none, none, y10, y11, none, none, none, none] m = .nx [some (.val (.int p)), some x1, some x2, some (.val (pl B)), some (.own (.dt (dtK (us.foldl (fun f u => addM f (mk p w B u)) [])) (dtV (us.foldl (fun f u => addM f (mk p w B u)) [])))), z5, none, none, none, none, z10, z11, none, none, none, none] m := by
  obtain ⟨⟨f, z5, z10, z11⟩, ⟨h1, _⟩, h2⟩ := forL_ex (fg := []) (F := bodyF (callN G (n + 1)) (.nm 5) l_32_1) (fun u => uD u w) (fun b : LT × Option SV × Option SV × Option SV => [some (.val (.int p)), some x1, some x2, some (.val (pl B)), some (.own (.dt (dtK b.1) (dtV b.1))), b.2.1, none, none, none, none, b.2.2.1, b.2.2.2, none, none, none, none]) (fun _ => m) (fun xs b => xs.foldl (fun f u => addM f (mk p w B u)) b.1 = us.foldl (fun f u => addM f (mk p w B u)) [] ∧ (∀ x ∈ xs, RowP p (w + 1) x) ∧ b.1.length + xs.length ≤ 5000)
    (fun u xs b hb => by
      obtain ⟨f, z5, z10, z11⟩ := b
      obtain ⟨g1, g2, g3⟩ := hb
      dsimp only at g1 g3 ⊢
      rw [List.length_cons] at g3
      have hu := g2 u (by simp)
      obtain ⟨y, la⟩ := l_32a n p hp m w u hu B hB hl x1 x2 (.val (pl B)) (.own (.dt (dtK f) (dtV f))) z11 none none none none none none none none
      have dg := dget_dt (mk p w B u) f
      have z0 : f.length < sizeLine := szl (n := f.length + 1) (by omega)
      have st := set_dt (mk p w B u) (coG f (mk p w B u) + 1) f z0
      have hlen : (adG (mk p w B u) (coG f (mk p w B u) + 1) f).length ≤ f.length + 1 := by
        unfold adG
        split <;> simp
      refine ⟨(addM f (mk p w B u), some (.val (uD u w)), some (.own (.lst ((mk p w B u).map D.int))), y), ⟨g1, fun y hy => g2 y (by simp [hy]), by
        show (adG (mk p w B u) (coG f (mk p w B u) + 1) f).length + xs.length ≤ 5000
        omega⟩, [some (.val (.int p)), some x1, some x2, some (.val (pl B)), some (.own (.dt (dtK (addM f (mk p w B u))) (dtV (addM f (mk p w B u))))), some (.val (uD u w)), none, none, none, none, some (.own (.lst ((mk p w B u).map D.int))), y, none, none, none, none], ?_, rfl⟩
      unfold addM
      generalize uD u w = U at *
      generalize mk p w B u = K at *
      generalize (adG K (coG f K + 1) f) = f2 at *
      generalize dtK f2 = k2 at *
      generalize dtV f2 = v2 at *
      generalize coG f K = c at *
      generalize dtK f = k1 at *
      generalize dtV f = v1 at *
      simp -implicitDefEqProofs [↓evS_for, ↓evE_lc, evSs, evS, evE, evEs, evP, evPs, evI, evB, evBor, evBand, evO, evOB, evAnd, bindT, wipeS, bodyF, l_32_1, la, dg, isO, chgO, st])
    us ([], y5, y10, y11) ⟨rfl, hus, by simpa using hul⟩
  have e : f = us.foldl (fun f u => addM f (mk p w B u)) [] := h1
  subst e
  exact ⟨z5, z10, z11, h2⟩
end K94
end

section
set_option Elab.async false
set_option linter.all false
set_option maxRecDepth 100000
set_option maxHeartbeats 4000000
namespace K94
open PySem PySem.Spec PyProof.Rows Dp
def mulL (a b : List Int) : List Int := (a.zip b).map fun q => q.1 * q.2
structure OkT (n : Nat) (f : LT) : Prop where
  nd : (f.map (·.1)).Nodup
  row : ∀ k ∈ f.map (·.1), RowP 2 n k
theorem OkT.len {n : Nat} {f : LT} (h : OkT n f) (hn : n ≤ 10) : f.length ≤ 1024 := by
  have h1 := h.nd.length_le_of_subset (l₂ := apI 2 n) fun x hx => mem_ap.mpr (h.row x hx)
  rw [List.length_map, ap_len 2 (by decide)] at h1
  refine Nat.le_trans h1 (Nat.le_trans (Nat.pow_le_pow_right (by decide) hn) (by decide))
theorem OkT.ad {n : Nat} {f : LT} (h : OkT n f) {e : List Int} (he : RowP 2 n e) (v : Int) : OkT n (adG e v f) :=
  ⟨nd_adG e v f h.nd, fun k hk => by
    rcases mem_adG e v f k hk with rfl | hk
    · exact he
    · exact h.row k hk⟩
theorem OkT.nil (n : Nat) : OkT n [] := ⟨by simp, (fun k hk => nomatch hk)⟩
theorem mul_row : ∀ {n : Nat} {a b : List Int}, RowP 2 n a → RowP 2 n b → RowP 2 n (mulL a b)
  | n, a, b, ha, hb => by
    refine ⟨by simp [mulL, ha.1, hb.1], fun x hx => ?_⟩
    obtain ⟨q, hq, rfl⟩ := List.mem_map.mp hx
    have h1 := ha.2 q.1 (List.of_mem_zip hq).1
    have h2 := hb.2 q.2 (List.of_mem_zip hq).2
    rcases (by omega : q.1 = 0 ∨ q.1 = 1) with e | e <;> rw [e] <;> omega
theorem keys_pt (f : LT) : (dtK f).map (fun k => D.tup (k.map kD)) = (f.map (·.1)).map pt := by
  rw [List.map_map, List.map_map]
  refine List.map_congr_left fun q _ => ?_
  show D.tup ((q.1.map fun i => (Sum.inl i : L2.Key)).map kD) = .tup (q.1.map D.int)
  rw [List.map_map]
  rfl
theorem f_list_dt (f : LT) (ds : List D) (m : Mu) : opF .list [.dt (dtK f) ds] m = .ok (.own (.lst ((f.map (·.1)).map pt))) m := by
  show R.ok (SV.own (.lst ((dtK f).map fun k => .tup (k.map kD)))) m = _
  rw [keys_pt]
def stB (f g : LT) (a : List Int) (h : LT) (b : List Int) : LT := adG (mulL a b) (coG h (mulL a b) + coG g a * coG f b) h
theorem t_32c (n : Nat) (m : Mu) (N : Nat) (hN : N ≤ 10) (f g h : LT) (hf : OkT N f) (hg : OkT N g) (hh : OkT N h) (hbd : ∀ q ∈ f, 0 ≤ q.2 ∧ q.2 ≤ 500) (a b : List Int) (ha : a ∈ g.map (·.1)) (hb : b ∈ f.map (·.1)) (x0 x1 x2 x3 : SV) (y5 y7 y8 y9 y11 y13 y14 y15 : Option SV) :
    bodyF (callN G n) (.nm 13) l_32_2 (pt b) [some x0, some x1, some x2, some x3, some (.own (.dt (dtK f) (dtV f))), y5, some (.val (.dt (dtK g) (dtV g))), y7, y8, y9, some (.val (pt a)), y11, some (.own (.dt (dtK h) (dtV h))), y13, y14, y15] m = .nx [some x0, some x1, some x2, some x3, some (.own (.dt (dtK f) (dtV f))), y5, some (.val (.dt (dtK g) (dtV g))), y7, y8, y9, some (.val (pt a)), y11, some (.own (.dt (dtK (stB f g a h b)) (dtV (stB f g a h b)))), some (.val (pt b)), some (.val (pt (mulL a b))), y15] m := by
  have ra := hg.row a ha
  have rb := hf.row b hb
  have lk := lcL_mapf (m := m) (F := lcF (callN G n) [some x0, some x1, some x2, some x3, some (.own (.dt (dtK f) (dtV f))), none, some (.val (.dt (dtK g) (dtV g))), y7, y8, y9, some (.val (pt a)), y11, some (.own (.dt (dtK h) (dtV h))), some (.val (pt b)), y14, none] (.tp [5, 15]) .none (.bin .mul (.e (.var 5)) (.e (.var 15)))) (fun q : Int × Int => D.tup [.int q.1, .int q.2]) (fun q => D.int (q.1 * q.2)) (a.zip b) [] (by simp [ra.1, rb.1]; omega) (fun q hq => by
    have h2 := rb.2 q.2 (List.of_mem_zip hq).2
    have bm := b_mulS (i := q.1) (j := q.2) (m := m) (by omega) (by omega)
    simp -implicitDefEqProofs [↓evS_for, ↓evE_lc, evSs, evS, evE, evEs, evP, evPs, evI, evB, evBor, evBand, evO, evOB, evAnd, bindT, wipeS, lcF, bm])
  have ez : ((a.map D.int).zip (b.map D.int)).map (fun q : D × D => D.tup [q.1, q.2]) = (a.zip b).map fun q : Int × Int => D.tup [.int q.1, .int q.2] := by
    rw [List.zip_map, List.map_map]
    rfl
  have em : (a.zip b).map (fun q => D.int (q.1 * q.2)) = (mulL a b).map D.int := by
    unfold mulL
    rw [List.map_map]
    rfl
  rw [List.nil_append, em] at lk
  have cb := coG_bd (b := 500) (by decide) hbd b
  have z0 : h.length < sizeLine := szl (n := h.length + 1) (by have := hh.len hN; omega)
  obtain ⟨A, hA⟩ : ∃ t, t = a.map D.int := ⟨_, rfl⟩
  obtain ⟨B, hB⟩ : ∃ t, t = b.map D.int := ⟨_, rfl⟩
  obtain ⟨Z, hZ⟩ : ∃ t, t = (a.zip b).map fun q : Int × Int => D.tup [.int q.1, .int q.2] := ⟨_, rfl⟩
  obtain ⟨C, hC⟩ : ∃ t, t = (mulL a b).map D.int := ⟨_, rfl⟩
  have dg : dgetV (.dt (dtK h) (dtV h)) (.tup C) (.int 0) = some (.int (coG h (mulL a b))) := by rw [hC]; exact dget_dt (mulL a b) h
  have i1 : opIx (.dt (dtK g) (dtV g)) (.tup A) m = .ok (.val (.int (coG g a))) m := by rw [hA]; exact ix_dt ha m
  have i2 : opIx (.dt (dtK f) (dtV f)) (.tup B) m = .ok (.val (.int (coG f b))) m := by rw [hB]; exact ix_dt hb m
  have bm := b_mulS (i := coG g a) (j := coG f b) (m := m) (by omega) (by omega)
  have st : opSet (.dt (dtK h) (dtV h)) (.tup C) (.int (coG h (mulL a b) + coG g a * coG f b)) = some (.dt (dtK (stB f g a h b)) (dtV (stB f g a h b))) := by rw [hC]; exact set_dt (mulL a b) (coG h (mulL a b) + coG g a * coG f b) h z0
  rw [← hA, ← hB, ← hZ] at ez
  show bodyF (callN G n) (.nm 13) l_32_2 (.tup (b.map D.int)) [some x0, some x1, some x2, some x3, some (.own (.dt (dtK f) (dtV f))), y5, some (.val (.dt (dtK g) (dtV g))), y7, y8, y9, some (.val (.tup (a.map D.int))), y11, some (.own (.dt (dtK h) (dtV h))), y13, y14, y15] m = .nx [some x0, some x1, some x2, some x3, some (.own (.dt (dtK f) (dtV f))), y5, some (.val (.dt (dtK g) (dtV g))), y7, y8, y9, some (.val (.tup (a.map D.int))), y11, some (.own (.dt (dtK (stB f g a h b)) (dtV (stB f g a h b)))), some (.val (.tup (b.map D.int))), some (.val (.tup ((mulL a b).map D.int))), y15] m
  have lk' : lcL (lcF (callN G n) [some x0, some x1, some x2, some x3, some (.own (.dt (dtK f) (dtV f))), none, some (.val (.dt (dtK g) (dtV g))), y7, y8, y9, some (.val (.tup A)), y11, some (.own (.dt (dtK h) (dtV h))), some (.val (.tup B)), y14, none] (.tp [5, 15]) .none (.bin .mul (.e (.var 5)) (.e (.var 15)))) Z [] m = .ok (C) m := by rw [hA, hB, hZ, hC]; exact lk
  rw [← hA, ← hB, ← hC]
  clear lk hA hB hZ hC em
  generalize stB f g a h b = h2 at *
  generalize coG h (mulL a b) = c1 at *
  generalize coG g a = c2 at *
  generalize coG f b = c3 at *
  generalize dtK f = fk at *
  generalize dtV f = fv at *
  generalize dtK g = gk at *
  generalize dtV g = gv at *
  generalize dtK h = hk at *
  generalize dtV h = hv at *
  generalize dtK h2 = hk2 at *
  generalize dtV h2 = hv2 at *
  simp -implicitDefEqProofs [↓evS_for, ↓evE_lc, evSs, evS, evE, evEs, evP, evPs, evI, evB, evBor, evBand, evO, evOB, evAnd, bindT, wipeS, bodyF, l_32_2, ez, lk', dg, i1, i2, bm, isO, chgO, st]
end K94
end

section
set_option Elab.async false
set_option linter.all false
set_option maxRecDepth 100000
set_option maxHeartbeats 4000000
namespace K94
open PySem PySem.Spec PyProof.Rows Dp
theorem OkT.st {N : Nat} {f g h : LT} (hf : OkT N f) (hg : OkT N g) (hh : OkT N h) {a b : List Int} (ha : a ∈ g.map (·.1)) (hb : b ∈ f.map (·.1)) : OkT N (stB f g a h b) := hh.ad (mul_row (hg.row a ha) (hf.row b hb)) _
def rowB (f g : LT) (h : LT) (a : List Int) : LT := (f.map (·.1)).foldl (stB f g a) h
def nextG (f g : LT) : LT := (g.map (·.1)).foldl (rowB f g) []
theorem foldl_ok {α : Type} (P : LT → Prop) (F : LT → α → LT) : ∀ (xs : List α) (h : LT), P h → (∀ h x, x ∈ xs → P h → P (F h x)) → P (xs.foldl F h)
  | [], _, h0, _ => h0
  | x :: xs, h, h0, hs => foldl_ok P F xs (F h x) (hs h x (by simp) h0) fun h y hy => hs h y (by simp [hy])
theorem OkT.row_ {N : Nat} {f g h : LT} (hf : OkT N f) (hg : OkT N g) (hh : OkT N h) {a : List Int} (ha : a ∈ g.map (·.1)) : OkT N (rowB f g h a) := foldl_ok (OkT N) _ _ _ hh fun h b hb h0 => hf.st hg h0 ha hb
theorem OkT.next {N : Nat} {f g : LT} (hf : OkT N f) (hg : OkT N g) : OkT N (nextG f g) := foldl_ok (OkT N) _ _ _ (OkT.nil N) fun h a ha h0 => hf.row_ hg h0 ha
theorem t_32d (n : Nat) (m : Mu) (N : Nat) (hN : N ≤ 10) (f g h : LT) (hf : OkT N f) (hg : OkT N g) (hh : OkT N h) (hbd : ∀ q ∈ f, 0 ≤ q.2 ∧ q.2 ≤ 500) (a : List Int) (ha : a ∈ g.map (·.1)) (x0 x1 x2 x3 : SV) (y5 y7 y8 y9 y10 y11 y15 : Option SV) :
    bodyF (callN G n) (.nm 10) l_32_3 (pt a) [some x0, some x1, some x2, some x3, some (.own (.dt (dtK f) (dtV f))), y5, some (.val (.dt (dtK g) (dtV g))), y7, y8, y9, y10, y11, some (.own (.dt (dtK h) (dtV h))), none, none, y15] m = .nx [some x0, some x1, some x2, some x3, some (.own (.dt (dtK f) (dtV f))), y5, some (.val (.dt (dtK g) (dtV g))), y7, y8, y9, some (.val (pt a)), y11, some (.own (.dt (dtK (rowB f g h a)) (dtV (rowB f g h a)))), none, none, y15] m := by
  obtain ⟨h', ⟨q1, _, _⟩, q3⟩ := forL_ex (fg := [13, 14]) (F := bodyF (callN G n) (.nm 13) l_32_2) pt (fun h : LT => [some x0, some x1, some x2, some x3, some (.own (.dt (dtK f) (dtV f))), y5, some (.val (.dt (dtK g) (dtV g))), y7, y8, y9, some (.val (pt a)), y11, some (.own (.dt (dtK h) (dtV h))), none, none, y15]) (fun _ => m) (fun xs h' => xs.foldl (stB f g a) h' = rowB f g h a ∧ OkT N h' ∧ ∀ x ∈ xs, x ∈ f.map (·.1))
    (fun b xs h1 hb => by
      obtain ⟨g1, g2, g3⟩ := hb
      have hbm := g3 b (by simp)
      exact ⟨stB f g a h1 b, ⟨g1, hf.st hg g2 ha hbm, fun y hy => g3 y (by simp [hy])⟩, _, t_32c n m N hN f g h1 hf hg g2 hbd a b ha hbm x0 x1 x2 x3 y5 y7 y8 y9 y11 none none y15, rfl⟩)
    (f.map (·.1)) h ⟨rfl, hh, fun x hx => hx⟩
  have e : h' = rowB f g h a := q1
  subst e
  have fl := f_list_dt f (dtV f) m
  generalize (f.map (·.1)).map pt = ks at *
  generalize rowB f g h a = h2 at *
  generalize dtK f = fk at *
  generalize dtV f = fv at *
  simp -implicitDefEqProofs [↓evS_for, ↓evE_lc, evSs, evS, evE, evEs, evP, evPs, evI, evB, evBor, evBand, evO, evOB, evAnd, bindT, wipeS, bodyF, l_32_3, fl, q3]
theorem t_32e (n : Nat) (m : Mu) (N : Nat) (hN : N ≤ 10) (f g : LT) (hf : OkT N f) (hg : OkT N g) (hbd : ∀ q ∈ f, 0 ≤ q.2 ∧ q.2 ≤ 500) (wt : List Int) (k : Nat) (cs : List Int) (hcs : cs.length ≤ 100) (x0 x1 x2 x3 : SV) (y5 y10 y11 y15 : Option SV) : ∃ z10,
    bodyF (callN G n) (.nm 9) l_32_4 (.int (k : Nat)) [some x0, some x1, some x2, some x3, some (.own (.dt (dtK f) (dtV f))), y5, some (.val (.dt (dtK g) (dtV g))), some (.val (pt wt)), some (.own (.lst (cs.map .int))), none, y10, y11, none, none, none, y15] m = .nx [some x0, some x1, some x2, some x3, some (.own (.dt (dtK f) (dtV f))), y5, some (.val (.dt (dtK (nextG f g)) (dtV (nextG f g)))), some (.val (pt wt)), some (.own (.lst ((cs ++ [coG g wt]).map .int))), some (.val (.int (k : Nat))), z10, y11, some (.val (.dt (dtK (nextG f g)) (dtV (nextG f g)))), none, none, y15] m := by
  obtain ⟨⟨h', z10⟩, ⟨q1, _, _⟩, q3⟩ := forL_ex (fg := [13, 14]) (F := bodyF (callN G n) (.nm 10) l_32_3) pt (fun b : LT × Option SV => [some x0, some x1, some x2, some x3, some (.own (.dt (dtK f) (dtV f))), y5, some (.val (.dt (dtK g) (dtV g))), some (.val (pt wt)), some (.own (.lst ((cs ++ [coG g wt]).map .int))), some (.val (.int (k : Nat))), b.2, y11, some (.own (.dt (dtK b.1) (dtV b.1))), none, none, y15]) (fun _ => m) (fun xs b => xs.foldl (rowB f g) b.1 = nextG f g ∧ OkT N b.1 ∧ ∀ x ∈ xs, x ∈ g.map (·.1))
    (fun a xs b hb => by
      obtain ⟨h1, z⟩ := b
      obtain ⟨g1, g2, g3⟩ := hb
      have ham := g3 a (by simp)
      exact ⟨(rowB f g h1 a, some (.val (pt a))), ⟨g1, hf.row_ hg g2 ham, fun y hy => g3 y (by simp [hy])⟩, _, t_32d n m N hN f g h1 hf hg g2 hbd a ham x0 x1 x2 x3 y5 (some (.val (pt wt))) (some (.own (.lst ((cs ++ [coG g wt]).map .int)))) (some (.val (.int (k : Nat)))) z y11 y15, rfl⟩)
    (g.map (·.1)) ([], y10) ⟨rfl, OkT.nil N, fun x hx => hx⟩
  have e : h' = nextG f g := q1
  subst e
  refine ⟨z10, ?_⟩
  have q3' : forL [13, 14] (bodyF (callN G n) (.nm 10) l_32_3) ((g.map (·.1)).map pt) [some x0, some x1, some x2, some x3, some (.own (.dt (dtK f) (dtV f))), y5, some (.val (.dt (dtK g) (dtV g))), some (.val (pt wt)), some (.own (.lst (cs.map .int ++ [.int (coG g wt)]))), some (.val (.int (k : Nat))), y10, y11, some (.own (.dt [] [])), none, none, y15] m = .nx [some x0, some x1, some x2, some x3, some (.own (.dt (dtK f) (dtV f))), y5, some (.val (.dt (dtK g) (dtV g))), some (.val (pt wt)), some (.own (.lst (cs.map .int ++ [.int (coG g wt)]))), some (.val (.int (k : Nat))), z10, y11, some (.own (.dt (dtK (nextG f g)) (dtV (nextG f g)))), none, none, y15] m := by
    have := q3
    rw [List.map_append] at this
    exact this
  have fl := f_list_dt g (dtV g) m
  have dg : dgetV (.dt (dtK g) (dtV g)) (pt wt) (.int 0) = some (.int (coG g wt)) := dget_dt wt g
  have z0 : (cs.map D.int).length < sizeLine := szl (n := (cs.map D.int).length + 1) (by simp; omega)
  rw [List.map_append]
  have e1 : [coG g wt].map D.int = [.int (coG g wt)] := rfl
  rw [e1]
  clear q3 q1
  generalize nextG f g = h2 at *
  generalize coG g wt = c at *
  generalize (g.map (·.1)).map pt = ks at *
  generalize cs.map D.int = C at *
  generalize hW : pt wt = W at *
  have sW : ∀ m, seeD m W = W := fun m => by rw [← hW]; rfl
  generalize dtK f = fk at *
  generalize dtV f = fv at *
  generalize dtK g = gk at *
  generalize dtV g = gv at *
  generalize dtK h2 = hk2 at *
  generalize dtV h2 = hv2 at *
  simp -implicitDefEqProofs [↓evS_for, ↓evE_lc, evSs, evS, evE, evEs, evP, evPs, evI, evB, evBor, evBand, evO, evOB, evAnd, bindT, wipeS, bodyF, l_32_4, fl, q3', dg, isL, isO, chgO, opM, z0, sW]
def gN (f g : LT) : Nat → LT
  | 0 => g
  | k + 1 => nextG f (gN f g k)
theorem gN_ok {N : Nat} {f g : LT} (hf : OkT N f) (hg : OkT N g) : ∀ k, OkT N (gN f g k)
  | 0 => hg
  | k + 1 => hf.next (gN_ok hf hg k)
end K94
end

section
set_option Elab.async false
set_option linter.all false
set_option maxRecDepth 100000
set_option maxHeartbeats 4000000
namespace K94
open PySem PySem.Spec PyProof.Rows Dp
/-- how often each mark -/
def mkF (p : Int) (w : Nat) (R B : List (List Int)) : LT := (SS p w R).foldl (fun f u => addM f (mk p w B u)) []
theorem mk_row (p : Int) (w : Nat) (B : List (List Int)) (u : List Int) : RowP 2 B.length (mk p w B u) := by
  refine ⟨by simp [mk], fun x hx => ?_⟩
  obtain ⟨y, _, rfl⟩ := List.mem_map.mp hx
  show 0 ≤ (if svI p w u y = 0 then (1 : Int) else 0) ∧ (if svI p w u y = 0 then (1 : Int) else 0) < 2
  split <;> decide
theorem mkF_ok (p : Int) (w : Nat) (B : List (List Int)) : ∀ (us : List (List Int)) (f : LT) (t : Nat), OkT B.length f → (∀ q ∈ f, 0 ≤ q.2 ∧ q.2 ≤ (t : Int)) → OkT B.length (us.foldl (fun f u => addM f (mk p w B u)) f) ∧ (∀ q ∈ us.foldl (fun f u => addM f (mk p w B u)) f, 0 ≤ q.2 ∧ q.2 ≤ ((t + us.length : Nat) : Int)) ∧ ∀ φ : List Int → Int, lf φ (us.foldl (fun f u => addM f (mk p w B u)) f) = lf φ f + (us.map fun u => φ (mk p w B u)).sum
  | [], f, t, h, hb => ⟨h, hb, fun φ => by
    show lf φ f = lf φ f + 0
    omega⟩
  | u :: us, f, t, h, hb => by
    have hr := mk_row p w B u
    have cb := coG_bd (b := (t : Int)) (by omega) hb (mk p w B u)
    obtain ⟨i1, i2, i3⟩ := mkF_ok p w B us (addM f (mk p w B u)) (t + 1) (h.ad hr _) (fun q hq => by
      rcases val_adG _ _ _ q hq with e | e
      · omega
      · have := hb q e
        omega)
    refine ⟨i1, fun q hq => ?_, fun φ => ?_⟩
    · have := i2 q hq
      rw [List.length_cons]
      omega
    · rw [List.foldl_cons, i3 φ, List.map_cons, List.sum_cons]
      unfold addM
      rw [lf_ad φ (mk p w B u) 1 f h.nd]
      omega
def onesG (n : Nat) : LT := [(List.replicate n 1, 1)]
theorem c_32r (n : Nat) (p : Int) (hp : 0 < p ∧ p ≤ 20) (m : Mu) (w : Nat) (hw : w ≤ 39) (h5 : p.toNat ^ (w + 1) ≤ 500) (R B : List (List Int)) (hl : R.length ≤ 100) (hR : ∀ x ∈ R, RowP p w x) (hB : ∀ x ∈ B, RowP p w x) (hlB : B.length ≤ 10) :
    callN G (n + 3) 32 [.int p, .int (w : Nat), pl R, pl B] m = .ok (.own (.lst (((List.range 7).map fun k => coG (gN (mkF p w R B) (onesG B.length) k) (List.replicate B.length 0)).map .int))) m := by
  have c27 := c_27r n p hp m w hw h5 R hl hR
  have hS : ∀ u ∈ SS p w R, RowP p (w + 1) u := fun u hu => mem_ap.mp (List.mem_filter.mp hu).1
  have hSl : (SS p w R).length ≤ 500 := by
    refine Nat.le_trans (List.length_filter_le _ _) ?_
    rw [ap_len p (by omega)]
    exact h5
  obtain ⟨z5, z10, z11, lb⟩ := l_32b (n + 1) p hp m w B hB (by omega) (.val (.int (w : Nat))) (.val (pl R)) none none none (SS p w R) hS (by omega)
  obtain ⟨ok, bd, _⟩ := mkF_ok p w B (SS p w R) [] 0 (OkT.nil _) (fun q hq => nomatch hq)
  have e : (SS p w R).foldl (fun f u => addM f (mk p w B u)) [] = mkF p w R B := rfl
  rw [e] at lb ok bd
  have bd' : ∀ q ∈ mkF p w R B, 0 ≤ q.2 ∧ q.2 ≤ 500 := fun q hq => by
    have := bd q hq
    omega
  have l1 := lcL_mapf (m := m) (F := lcF (callN G (n + 2)) [some (.val (.int p)), some (.val (.int (w : Nat))), some (.val (pl R)), some (.val (pl B)), some (.own (.dt (dtK (mkF p w R B)) (dtV (mkF p w R B)))), z5, none, none, none, none, z10, none, none, none, none, none] (.nm 11) .none (.int 1)) pt (fun _ => D.int 1) B [] (by simp; omega) (fun y hy => by simp -implicitDefEqProofs [↓evS_for, ↓evE_lc, evSs, evS, evE, evEs, evP, evPs, evI, evB, evBor, evBand, evO, evOB, evAnd, bindT, wipeS, lcF])
  have er : ∀ c : Int, B.map (fun _ => D.int c) = (List.replicate B.length c).map D.int := fun c => by
    rw [List.map_const', List.map_replicate]
  rw [List.nil_append, er 1] at l1
  have ok0 : OkT B.length (onesG B.length) := ⟨by simp [onesG], fun k hk => by
    unfold onesG at hk
    rw [List.map_cons, List.map_nil, List.mem_singleton] at hk
    subst hk
    exact ⟨by simp, fun x hx => by rw [(List.mem_replicate.mp hx).2]; decide⟩⟩
  have l2 := lcL_mapf (m := m) (F := lcF (callN G (n + 2)) [some (.val (.int p)), some (.val (.int (w : Nat))), some (.val (pl R)), some (.val (pl B)), some (.own (.dt (dtK (mkF p w R B)) (dtV (mkF p w R B)))), z5, some (.val (.dt (dtK (onesG B.length)) (dtV (onesG B.length)))), none, none, none, z10, none, none, none, none, none] (.nm 11) .none (.int 0)) pt (fun _ => D.int 0) B [] (by simp; omega) (fun y hy => by simp -implicitDefEqProofs [↓evS_for, ↓evE_lc, evSs, evS, evE, evEs, evP, evPs, evI, evB, evBor, evBand, evO, evOB, evAnd, bindT, wipeS, lcF])
  rw [List.nil_append, er 0] at l2
  generalize mkF p w R B = f at *
  have hg0 : (dtK (onesG B.length), dtV (onesG B.length)) = ([kyT (List.replicate B.length 1)], [D.int 1]) := rfl
  generalize onesG B.length = g0 at *
  obtain ⟨⟨k, y10, cs⟩, ⟨q1, q2, q3⟩, q4⟩ := forL_ex (fg := [9, 12, 13, 14]) (F := bodyF (callN G (n + 2)) (.nm 9) l_32_4) (fun i : Nat => D.int (i : Nat)) (fun b : Nat × Option SV × List Int => [some (.val (.int p)), some (.val (.int (w : Nat))), some (.val (pl R)), some (.val (pl B)), some (.own (.dt (dtK f) (dtV f))), z5, some (.val (.dt (dtK (gN f g0 b.1)) (dtV (gN f g0 b.1)))), some (.val (pt (List.replicate B.length 0))), some (.own (.lst (b.2.2.map .int))), none, b.2.1, z11, none, none, none, none]) (fun _ => m) (fun xs b => xs = List.range' b.1 (7 - b.1) ∧ b.1 ≤ 7 ∧ b.2.2 = (List.range b.1).map fun k => coG (gN f g0 k) (List.replicate B.length 0))
    (fun x xs b hb => by
      obtain ⟨k, y10, cs⟩ := b
      obtain ⟨g1, g2, g3⟩ := hb
      dsimp only at g1 g2 g3 ⊢
      have hk : k < 7 := by
        rcases Nat.lt_or_ge k 7 with h | h
        · exact h
        · rw [Nat.sub_eq_zero_of_le h] at g1
          cases g1
      have e : 7 - k = (7 - (k + 1)) + 1 := by omega
      rw [e, List.range'_succ] at g1
      injection g1 with g4 g5
      subst g4
      obtain ⟨z, t⟩ := t_32e (n + 2) m B.length hlB f (gN f g0 x) ok (gN_ok ok ok0 x) bd' (List.replicate B.length 0) x cs (by rw [g3]; simp; omega) (.val (.int p)) (.val (.int (w : Nat))) (.val (pl R)) (.val (pl B)) z5 y10 z11 none
      exact ⟨(x + 1, z, cs ++ [coG (gN f g0 x) (List.replicate B.length 0)]), ⟨g5, by omega, by rw [g3, List.range_succ, List.map_append]; rfl⟩, _, t, rfl⟩)
    (List.range 7) (0, z10, []) ⟨rfl, Nat.zero_le 7, rfl⟩
  dsimp only at q1 q2 q3 q4
  have hk7 : k = 7 := by
    rcases Nat.lt_or_ge k 7 with h | h
    · have e : 7 - k = (7 - (k + 1)) + 1 := by omega
      rw [e, List.range'_succ] at q1
      cases q1
    · omega
  subst hk7
  rw [← q3]
  have e1 : dtK g0 = [kyT (List.replicate B.length 1)] := congrArg Prod.fst hg0
  have e2 : dtV g0 = [D.int 1] := congrArg Prod.snd hg0
  have kk : keyT (.tup ((List.replicate B.length 1).map D.int)) = some (kyT (List.replicate B.length 1)) := keysD_pt _
  have q4' : forL [9, 12, 13, 14] (bodyF (callN G (n + 2)) (.nm 9) l_32_4) ((List.range 7).map fun i : Nat => D.int (i : Nat)) [some (.val (.int p)), some (.val (.int (w : Nat))), some (.val (pl R)), some (.val (pl B)), some (.own (.dt (dtK f) (dtV f))), z5, some (.val (.dt (dtK g0) (dtV g0))), some (.val (.tup ((List.replicate B.length 0).map D.int))), some (.own (.lst [])), none, z10, z11, none, none, none, none] m = .nx [some (.val (.int p)), some (.val (.int (w : Nat))), some (.val (pl R)), some (.val (pl B)), some (.own (.dt (dtK f) (dtV f))), z5, some (.val (.dt (dtK (gN f g0 7)) (dtV (gN f g0 7)))), some (.val (.tup ((List.replicate B.length 0).map D.int))), some (.own (.lst (cs.map .int))), none, y10, z11, none, none, none, none] m := q4
  clear q4 q3
  obtain ⟨O1, hO1⟩ : ∃ t, t = (List.replicate B.length 1).map D.int := ⟨_, rfl⟩
  obtain ⟨O0, hO0⟩ : ∃ t, t = (List.replicate B.length 0).map D.int := ⟨_, rfl⟩
  have sS : (SS p w R).map (fun u => uD u w) = (SS p w R).map fun u => uD u w := rfl
  rw [← hO1] at l1 kk
  rw [← hO0] at l2 q4'
  clear hO1 hO0
  rw [e1, e2] at q4' l2
  generalize kyT (List.replicate B.length 1) = K1 at *
  generalize dtK (gN f g0 7) = gk7 at *
  generalize dtV (gN f g0 7) = gv7 at *
  generalize dtK f = fk at *
  generalize dtV f = fv at *
  generalize (SS p w R).map (fun u => uD u w) = SL at *
  generalize cs.map D.int = CS at *
  obtain ⟨RG, hRG⟩ : ∃ t, t = (List.range 7).map fun i : Nat => D.int (i : Nat) := ⟨_, rfl⟩
  have hI : ∀ (cf : Nat → List D → Mu → Dp.R SV) (s : Sl) (m : Mu), evI G cf (.rng1 (.int 7)) s m = .ok RG m := fun cf s m => by
    rw [hRG]
    rfl
  rw [← hRG] at q4'
  clear hRG
  rw [o_32]
  simp -implicitDefEqProofs [↓evS_for, ↓evE_lc, evSs, evS, evE, evEs, evP, evPs, evI, evB, evBor, evBand, evO, evOB, evAnd, bindT, wipeS, ↓hI, b_32, c27, lb, l1, kk, l2, q4']
end K94
end

section
set_option Elab.async false
set_option linter.all false
set_option maxRecDepth 100000
set_option maxHeartbeats 4000000
namespace K94
open PySem PySem.Spec PyProof.Rows Dp
/-! the counts, as sums over lots -/
theorem keys_sum (φ : List Int → Int) : ∀ {f : LT}, (f.map (·.1)).Nodup → ((f.map (·.1)).map fun b => φ b * coG f b).sum = lf φ f
  | [], _ => rfl
  | q :: f, h => by
    rw [List.map_cons, List.nodup_cons] at h
    have ih := keys_sum φ h.2
    rw [List.map_cons, List.map_cons, List.sum_cons]
    have e1 : coG (q :: f) q.1 = q.2 := by
      unfold coG
      simp
    have e2 : (f.map (·.1)).map (fun b => φ b * coG (q :: f) b) = (f.map (·.1)).map fun b => φ b * coG f b := by
      refine List.map_congr_left fun b hb => ?_
      have : ¬ q.1 = b := fun z => h.1 (z ▸ hb)
      have e3 : coG (q :: f) b = coG f b := by
        unfold coG
        simp [this]
      rw [e3]
    rw [e1, e2, ih]
    rfl
/-- a function that goes along with products of marks -/
def Mul (n : Nat) (φ : List Int → Int) : Prop := ∀ a b, RowP 2 n a → RowP 2 n b → φ (mulL a b) = φ a * φ b
theorem sum_mul (c : Int) : ∀ l : List Int, (l.map fun x => c * x).sum = c * l.sum
  | [] => by simp
  | x :: l => by
    rw [List.map_cons, List.sum_cons, List.sum_cons, sum_mul c l, Int.mul_add]
theorem lf_row {n : Nat} {φ : List Int → Int} (hφ : Mul n φ) {f g : LT} (hf : OkT n f) (hg : OkT n g) {a : List Int} (ha : a ∈ g.map (·.1)) : ∀ (bs : List (List Int)) (h : LT), (∀ b ∈ bs, b ∈ f.map (·.1)) → OkT n h → OkT n (bs.foldl (stB f g a) h) ∧ lf φ (bs.foldl (stB f g a) h) = lf φ h + φ a * coG g a * (bs.map fun b => φ b * coG f b).sum
  | [], h, _, hh => ⟨hh, by
    show lf φ h = lf φ h + φ a * coG g a * 0
    omega⟩
  | b :: bs, h, hb, hh => by
    have hbm := hb b (by simp)
    have ok := hf.st hg hh ha hbm
    obtain ⟨i1, i2⟩ := lf_row hφ hf hg ha bs (stB f g a h b) (fun c hc => hb c (by simp [hc])) ok
    refine ⟨i1, ?_⟩
    rw [List.foldl_cons, i2, List.map_cons, List.sum_cons]
    unfold stB
    rw [lf_ad φ (mulL a b) (coG g a * coG f b) h hh.nd, hφ a b (hg.row a ha) (hf.row b hbm), Int.mul_add]
    have e : φ a * φ b * (coG g a * coG f b) = φ a * coG g a * (φ b * coG f b) := by
      simp only [Int.mul_assoc, Int.mul_left_comm]
    rw [e]
    omega
theorem lf_next {n : Nat} {φ : List Int → Int} (hφ : Mul n φ) {f g : LT} (hf : OkT n f) (hg : OkT n g) : lf φ (nextG f g) = lf φ g * lf φ f := by
  have key : ∀ (as : List (List Int)) (h : LT), (∀ a ∈ as, a ∈ g.map (·.1)) → OkT n h → lf φ (as.foldl (rowB f g) h) = lf φ h + (as.map fun a => φ a * coG g a).sum * lf φ f := by
    intro as
    induction as with
    | nil =>
      intro h _ _
      show lf φ h = lf φ h + 0 * lf φ f
      omega
    | cons a as ih =>
      intro h ha hh
      obtain ⟨i1, i2⟩ := lf_row hφ hf hg (ha a (by simp)) (f.map (·.1)) h (fun b hb => hb) hh
      rw [keys_sum φ hf.nd] at i2
      have e := ih (rowB f g h a) (fun b hb => ha b (by simp [hb])) i1
      have i2' : lf φ (rowB f g h a) = lf φ h + φ a * coG g a * lf φ f := i2
      rw [List.foldl_cons, e, i2', List.map_cons, List.sum_cons, Int.add_mul]
      omega
  have := key (g.map (·.1)) [] (fun a ha => ha) (OkT.nil n)
  rw [keys_sum φ hg.nd] at this
  unfold nextG
  rw [this]
  show (0 : Int) + _ = _
  omega
theorem ones_ok (n : Nat) : OkT n (onesG n) := ⟨by simp [onesG], fun k hk => by
  unfold onesG at hk
  rw [List.map_cons, List.map_nil, List.mem_singleton] at hk
  subst hk
  exact ⟨by simp, fun x hx => by rw [(List.mem_replicate.mp hx).2]; decide⟩⟩
theorem lf_gN {n : Nat} {φ : List Int → Int} (hφ : Mul n φ) (h1 : φ (List.replicate n 1) = 1) {f : LT} (hf : OkT n f) : ∀ k, lf φ (gN f (onesG n) k) = lf φ f ^ k
  | 0 => by
    show φ (List.replicate n 1) * 1 + 0 = _
    rw [h1, Int.pow_zero]
    rfl
  | k + 1 => by
    show lf φ (nextG f (gN f (onesG n) k)) = _
    rw [lf_next hφ hf (gN_ok hf (ones_ok n) k), lf_gN hφ h1 hf k, Int.pow_succ]
/-! ### in and out -/
def incE : Nat → (List Bool → Int) → Int
  | 0, F => F []
  | n + 1, F => incE n (fun s => F (false :: s)) - incE n (fun s => F (true :: s))
def phi : List Bool → List Int → Int
  | true :: s, x :: l => x * phi s l
  | false :: s, _ :: l => phi s l
  | _, _ => 1
theorem inc_congr : ∀ {n : Nat} {F H : List Bool → Int}, (∀ s, s.length = n → F s = H s) → incE n F = incE n H
  | 0, F, H, h => h [] rfl
  | n + 1, F, H, h => by
    unfold incE
    rw [inc_congr fun s hs => h (false :: s) (by simp [hs]), inc_congr fun s hs => h (true :: s) (by simp [hs])]
theorem inc_mul (c : Int) : ∀ (n : Nat) (F : List Bool → Int), incE n (fun s => c * F s) = c * incE n F
  | 0, _ => rfl
  | n + 1, F => by
    unfold incE
    rw [inc_mul c n, inc_mul c n, Int.mul_sub]
theorem inc_add : ∀ (n : Nat) (F H : List Bool → Int), incE n (fun s => F s + H s) = incE n F + incE n H
  | 0, _, _ => rfl
  | n + 1, F, H => by
    unfold incE
    rw [inc_add n, inc_add n]
    omega
theorem inc_zero : ∀ n : Nat, incE n (fun _ => 0) = 0
  | 0 => rfl
  | n + 1 => by
    unfold incE
    rw [inc_zero n]
    rfl
theorem del_phi : ∀ {n : Nat} {x : List Int}, RowP 2 n x → (if x = List.replicate n 0 then (1 : Int) else 0) = incE n fun s => phi s x
  | 0, x, h => by
    obtain rfl : x = [] := List.eq_nil_of_length_eq_zero h.1
    rfl
  | n + 1, [], h => by
    have := h.1
    simp at this
  | n + 1, x :: l, h => by
    have ih := del_phi (n := n) (x := l) ⟨by simpa using h.1, fun y hy => h.2 y (by simp [hy])⟩
    have hx := h.2 x (by simp)
    unfold incE
    have e1 : (incE n fun s => phi (false :: s) (x :: l)) = incE n fun s => phi s l := rfl
    have e2 : (incE n fun s => phi (true :: s) (x :: l)) = x * incE n fun s => phi s l := inc_mul x n _
    rw [e1, e2, ← ih, List.replicate_succ]
    rcases (by omega : x = 0 ∨ x = 1) with rfl | rfl
    · by_cases hz : l = List.replicate n 0
      · rw [if_pos (by rw [hz]), if_pos hz]
        rfl
      · rw [if_neg (fun z => hz (List.cons.inj z).2), if_neg hz]
        rfl
    · rw [if_neg (fun z => absurd (List.cons.inj z).1 (by decide))]
      omega
theorem lf_inc (n : Nat) (ψ : List Bool → List Int → Int) : ∀ f : LT, lf (fun x => incE n fun s => ψ s x) f = incE n fun s => lf (ψ s) f
  | [] => (inc_zero n).symm
  | q :: f => by
    show (incE n fun s => ψ s q.1) * q.2 + lf _ f = _
    rw [lf_inc n ψ f, Int.mul_comm, ← inc_mul, ← inc_add]
    refine inc_congr fun s _ => ?_
    show q.2 * ψ s q.1 + lf (ψ s) f = ψ s q.1 * q.2 + lf (ψ s) f
    rw [Int.mul_comm]
theorem lf_congr {φ ψ : List Int → Int} : ∀ {f : LT}, (∀ k ∈ f.map (·.1), φ k = ψ k) → lf φ f = lf ψ f
  | [], _ => rfl
  | q :: f, h => by
    show φ q.1 * q.2 + lf φ f = ψ q.1 * q.2 + lf ψ f
    rw [h q.1 (by simp), lf_congr fun k hk => h k (by rw [List.map_cons]; exact List.mem_cons_of_mem _ hk)]
theorem phi_mul : ∀ {n : Nat} (s : List Bool), Mul n (phi s)
  | _, [], a, b, _, _ => by
    cases a <;> cases b <;> rfl
  | 0, t :: s, a, b, ha, hb => by
    obtain rfl : a = [] := List.eq_nil_of_length_eq_zero ha.1
    obtain rfl : b = [] := List.eq_nil_of_length_eq_zero hb.1
    cases t <;> rfl
  | n + 1, t :: s, [], b, ha, _ => by
    have := ha.1
    simp at this
  | n + 1, t :: s, _ :: _, [], _, hb => by
    have := hb.1
    simp at this
  | n + 1, t :: s, x :: a, y :: b, ha, hb => by
    have ih := phi_mul (n := n) s a b ⟨by simpa using ha.1, fun z hz => ha.2 z (by simp [hz])⟩ ⟨by simpa using hb.1, fun z hz => hb.2 z (by simp [hz])⟩
    cases t with
    | false => exact ih
    | true =>
      show x * y * phi s (mulL a b) = x * phi s a * (y * phi s b)
      rw [ih]
      simp only [Int.mul_assoc, Int.mul_left_comm]
theorem phi_ones : ∀ (n : Nat) (s : List Bool), phi s (List.replicate n 1) = 1
  | _, [] => by
    cases (List.replicate _ (1 : Int)) <;> rfl
  | 0, t :: s => by cases t <;> rfl
  | n + 1, t :: s => by
    rw [List.replicate_succ]
    cases t with
    | false => exact phi_ones n s
    | true =>
      show 1 * phi s (List.replicate n 1) = 1
      rw [phi_ones n s]
      rfl
/-- the law's counts -/
theorem due_inc {n : Nat} {f : LT} (hf : OkT n f) (k : Nat) : coG (gN f (onesG n) k) (List.replicate n 0) = incE n fun s => lf (phi s) f ^ k := by
  have ok := gN_ok hf (ones_ok n) k
  rw [← lf_co ok.nd, lf_congr (ψ := fun x => incE n fun s => phi s x) fun x hx => del_phi (ok.row x hx), lf_inc]
  exact inc_congr fun s _ => lf_gN (phi_mul s) (phi_ones n s) hf k
end K94
end

section
set_option Elab.async false
set_option linter.all false
set_option maxHeartbeats 4000000
/-! How many sums are 0 at a lot of vectors. -/
namespace La
open Classical
section
variable {p : Nat} [NeZero p]
def dot (u v : Vc p) : Nat → Fin p
  | 0 => 0
  | n + 1 => dot u v n + u n * v n
theorem dot_lin (U : Vc p) (c : Fin p) (r v : Vc p) : ∀ n, dot U (lin c r v) n = c * dot U r n + dot U v n
  | 0 => by
    show (0 : Fin p) = c * 0 + 0
    grind
  | n + 1 => by
    show dot U (lin c r v) n + U n * (c * r n + v n) = c * (dot U r n + U n * r n) + (dot U v n + U n * v n)
    rw [dot_lin U c r v n]
    grind
theorem dot_zero (U : Vc p) : ∀ n, dot U zv n = 0
  | 0 => rfl
  | n + 1 => by
    show dot U zv n + U n * 0 = 0
    rw [dot_zero U n]
    grind
theorem dot_spn {U : Vc p} {n : Nat} : ∀ {rs : List (Vc p)} {v : Vc p}, (∀ r ∈ rs, dot U r n = 0) → spn rs v → dot U v n = 0
  | [], v, _, h => by
    rw [show v = zv from h]
    exact dot_zero U n
  | r :: rs, v, hr, ⟨c, v', h, e⟩ => by
    rw [e, dot_lin, hr r (by simp), dot_spn (fun q hq => hr q (by simp [hq])) h]
    grind
theorem dot_bump (U : Vc p) (l : Nat) (t : Fin p) (v : Vc p) : ∀ n, dot (fun i => if i = l then U i + t else U i) v n = dot U v n + if l < n then t * v l else 0
  | 0 => by
    show (0 : Fin p) = 0 + _
    rw [if_neg (by omega)]
    grind
  | n + 1 => by
    show dot (fun i => if i = l then U i + t else U i) v n + (if n = l then U n + t else U n) * v n = dot U v n + U n * v n + _
    rw [dot_bump U l t v n]
    by_cases h : n = l
    · subst h
      rw [if_neg (by omega), if_pos rfl, if_pos (by omega)]
      grind
    · rw [if_neg h]
      by_cases hl : l < n
      · rw [if_pos hl, if_pos (by omega)]
        grind
      · rw [if_neg hl, if_neg (by omega)]
        grind
theorem ech_fst : ∀ {el : List (Vc p × Nat)}, Ech el → ∀ x ∈ el, Fst x.1 x.2
  | [], _, x, hx => by simp at hx
  | (r, l) :: rest, ⟨h1, h2, h3⟩, x, hx => by
    rcases List.mem_cons.mp hx with e | e
    · rw [e]; exact h1
    · exact ech_fst h3 x e
/-- a row outside the span is told apart -/
theorem dual_ech (hF : Fld p) {W : Nat} {v : Vc p} (hv : Sup W v) (hn : v ≠ zv) : ∀ {el : List (Vc p × Nat)}, Ech el → (∀ x ∈ el, x.2 < W ∧ v x.2 = 0) → ∃ U : Vc p, (∀ x ∈ el, dot U x.1 W = 0) ∧ dot U v W ≠ 0
  | [], _, _ => by
    obtain ⟨j, hj, hf⟩ := fst_ex hv hn
    refine ⟨fun i => if i = j then (zv : Vc p) i + 1 else (zv : Vc p) i, by simp, ?_⟩
    rw [dot_bump zv j 1 v W, if_pos hj]
    have e : dot (zv : Vc p) v W = 0 := by
      have key : ∀ n, dot (zv : Vc p) v n = 0 := by
        intro n
        induction n with
        | zero => rfl
        | succ n ih =>
          show dot (zv : Vc p) v n + 0 * v n = 0
          rw [ih]
          grind
      exact key W
    rw [e]
    intro z
    apply hf.1
    grind
  | (r, l) :: rest, ⟨h1, h2, h3⟩, hx => by
    obtain ⟨U, g1, g2⟩ := dual_ech hF hv hn h3 fun x hx' => hx x (by simp [hx'])
    obtain ⟨hl, hvl⟩ := hx (r, l) (by simp)
    obtain ⟨b, hb⟩ := hF (r l) h1.1
    refine ⟨fun i => if i = l then U i + (0 - dot U r W * b) else U i, fun x hx' => ?_, ?_⟩
    · rw [dot_bump, if_pos hl]
      rcases List.mem_cons.mp hx' with e | e
      · subst e
        simp only
        grind
      · have f := ech_fst h3 x e
        have z := f.2 l (h2 x e)
        rw [g1 x e, z]
        grind
    · rw [dot_bump, if_pos hl]
      have hvl' : v l = 0 := hvl
      rw [hvl']
      intro z
      apply g2
      grind
theorem dual (hF : Fld p) {W : Nat} {rs : List (Vc p)} (hr : ∀ r ∈ rs, Sup W r) {v : Vc p} (hv : Sup W v) (hn : ¬ spn rs v) : ∃ U : Vc p, (∀ r ∈ rs, dot U r W = 0) ∧ dot U v W = 1 := by
  obtain ⟨el, e1, e2, e3, _⟩ := base_ex hF hr
  obtain ⟨u, hu, hz⟩ := red_ex hF v e1
  have su : Sup W u := fun i hi => by
    have q1 := spn_sup hr ((e3 _).mp hu) i hi
    have q2 := hv i hi
    grind
  have nu : u ≠ zv := fun z => hn (by
    have : (fun i => v i - u i) = v := by
      funext i
      rw [z]
      simp only [zv]
      grind
    rw [this] at hu
    exact (e3 v).mp hu)
  obtain ⟨U, g1, g2⟩ := dual_ech hF su nu e1 fun x hx => ⟨e2 x hx, hz x hx⟩
  have g3 : ∀ r ∈ el.map (·.1), dot U r W = 0 := fun r hr => by
    obtain ⟨x, hx, e⟩ := List.mem_map.mp hr
    rw [← e]
    exact g1 x hx
  have g4 : dot U v W = dot U u W := by
    have e : v = lin 1 u (fun i => v i - u i) := by
      funext i
      simp only [lin]
      grind
    have := dot_lin U 1 u (fun i => v i - u i) W
    rw [← e, dot_spn g3 hu] at this
    rw [this]
    grind
  obtain ⟨b, hb⟩ := hF (dot U u W) g2
  have sc : ∀ x : Vc p, dot (fun i => b * U i) x W = b * dot U x W := by
    intro x
    have key : ∀ n, dot (fun i => b * U i) x n = b * dot U x n := by
      intro n
      induction n with
      | zero =>
        show (0 : Fin p) = b * 0
        grind
      | succ n ih =>
        show dot (fun i => b * U i) x n + b * U n * x n = b * (dot U x n + U n * x n)
        rw [ih]
        grind
    exact key W
  refine ⟨fun i => b * U i, fun r hr => ?_, ?_⟩
  · rw [sc, dot_spn g3 ((e3 r).mpr (spn_mem hr))]
    grind
  · rw [sc, g4]
    grind
end
end La
end

section
set_option Elab.async false
set_option linter.all false
set_option maxHeartbeats 4000000
namespace K94
open PySem PySem.Spec PyProof.Rows La
open Classical
section
variable {q : Nat} [NeZero q]
/-- 0 at all these vectors -/
noncomputable def vnB (q : Nat) [NeZero q] (W : Nat) (vs : List (Vc q)) (u : List Int) : Bool := vs.all fun v => decide (dot (vec q u) v W = 0)
noncomputable def Nv (q : Nat) [NeZero q] (W : Nat) (vs : List (Vc q)) : Nat := (apI q W).countP (vnB q W vs)
/-- a row moved by another one -/
def shI (q : Nat) (W : Nat) (c : Int) (a u : List Int) : List Int := (List.range W).map fun i => (ga u i + c * ga a i) % (q : Int)
theorem sh_ga {W : Nat} {c : Int} {a u : List Int} {i : Nat} (h : i < W) : ga (shI q W c a u) i = (ga u i + c * ga a i) % (q : Int) := by
  show (shI q W c a u).getD i 0 = _
  unfold shI
  rw [List.getD_eq_getElem?_getD, List.getElem?_map, List.getElem?_range h]
  rfl
theorem sh_row {W : Nat} {c : Int} {a u : List Int} : RowP q W (shI q W c a u) := by
  have q0 := q_pos (q := q)
  refine ⟨by simp [shI], fun x hx => ?_⟩
  obtain ⟨i, _, rfl⟩ := List.mem_map.mp hx
  exact ⟨Int.emod_nonneg _ (by omega), Int.emod_lt_of_pos _ q0⟩
theorem row_ext {p : Int} {W : Nat} {u v : List Int} (hu : RowP p W u) (hv : RowP p W v) (h : ∀ i, i < W → ga u i = ga v i) : u = v := by
  refine List.ext_getElem (by rw [hu.1, hv.1]) fun i h1 h2 => ?_
  have := h i (by rw [← hu.1]; exact h1)
  unfold ga at this
  rw [List.getD_eq_getElem?_getD, List.getD_eq_getElem?_getD, List.getElem?_eq_getElem h1, List.getElem?_eq_getElem h2] at this
  exact this
theorem sh_sh {W : Nat} {c : Int} {a u : List Int} (hu : RowP q W u) : shI q W c a (shI q W (-c) a u) = u := by
  refine row_ext (sh_row (q := q)) hu fun i hi => ?_
  rw [sh_ga hi, sh_ga hi]
  have g := ga_mem hu hi
  rw [Int.emod_add_emod, Int.neg_mul]
  have : ga u i + -(c * ga a i) + c * ga a i = ga u i := by omega
  rw [this, Int.emod_eq_of_lt g.1 g.2]
theorem sh_perm (W : Nat) (c : Int) (a : List Int) : ((apI q W).map (shI q W c a)).Perm (apI q W) := by
  have nd : ((apI q W).map (shI q W c a)).Nodup := by
    refine List.pairwise_map.mpr ((ap_nd W).imp_of_mem fun {x y} hx hy hxy e => hxy ?_)
    have e2 := congrArg (shI q W (-c) a) e
    have k : ∀ z, RowP q W z → shI q W (-c) a (shI q W c a z) = z := fun z hz => by
      have := sh_sh (q := q) (c := -c) (a := a) hz
      rw [Int.neg_neg] at this
      exact this
    rw [k x (mem_ap.mp hx), k y (mem_ap.mp hy)] at e2
    exact e2
  refine (List.perm_ext_iff_of_nodup nd (ap_nd W)).mpr fun x => ⟨fun h => ?_, fun h => ?_⟩
  · obtain ⟨u, _, rfl⟩ := List.mem_map.mp h
    exact mem_ap.mpr sh_row
  · exact List.mem_map.mpr ⟨shI q W (-c) a x, mem_ap.mpr sh_row, sh_sh (mem_ap.mp h)⟩
theorem dot_ext {u u' : Vc q} {v : Vc q} : ∀ {n : Nat}, (∀ i, i < n → u i = u' i) → dot u v n = dot u' v n
  | 0, _ => rfl
  | n + 1, h => by
    show dot u v n + u n * v n = dot u' v n + u' n * v n
    rw [dot_ext fun i hi => h i (by omega), h n (by omega)]
theorem dot_sh {W : Nat} {c : Int} {a u : List Int} (v : Vc q) : dot (vec q (shI q W c a u)) v W = dot (vec q u) v W + iv q c * dot (vec q a) v W := by
  have e1 : dot (vec q (shI q W c a u)) v W = dot (fun i => vec q u i + iv q c * vec q a i) v W := dot_ext fun i hi => by
    show iv q (ga (shI q W c a u) i) = iv q (ga u i) + iv q c * iv q (ga a i)
    rw [sh_ga hi, iv_mod, iv_add, iv_mul]
  rw [e1]
  have key : ∀ n, dot (fun i => vec q u i + iv q c * vec q a i) v n = dot (vec q u) v n + iv q c * dot (vec q a) v n := by
    intro n
    induction n with
    | zero =>
      show (0 : Fin q) = 0 + iv q c * 0
      grind
    | succ n ih =>
      show dot (fun i => vec q u i + iv q c * vec q a i) v n + (vec q u n + iv q c * vec q a n) * v n = dot (vec q u) v n + vec q u n * v n + iv q c * (dot (vec q a) v n + vec q a n * v n)
      rw [ih]
      grind
  exact key W
/-- each one counted once -/
theorem count_split {α : Type} (g : α → Fin q) (Q : α → Bool) : ∀ L : List α, ((List.range q).map fun c => L.countP fun u => Q u && decide ((g u : Nat) = c)).sum = L.countP Q
  | [] => by
    simp [List.map_const']
  | u :: L => by
    have ih := count_split g Q L
    have e : (fun c => (u :: L).countP fun u => Q u && decide ((g u : Nat) = c)) = fun c => (L.countP fun u => Q u && decide ((g u : Nat) = c)) + if (Q u && decide ((g u : Nat) = c)) = true then 1 else 0 := by
      funext c
      rw [List.countP_cons]
    rw [e]
    have sadd : ∀ (l : List Nat) (F H : Nat → Nat), (l.map fun c => F c + H c).sum = (l.map F).sum + (l.map H).sum := by
      intro l F H
      induction l with
      | nil => rfl
      | cons x l ih =>
        rw [List.map_cons, List.sum_cons, ih, List.map_cons, List.map_cons, List.sum_cons, List.sum_cons]
        omega
    rw [sadd, ih, List.countP_cons]
    congr 1
    by_cases hQ : Q u = true
    · rw [if_pos hQ]
      have one : ∀ n k : Nat, ((List.range n).map fun c => if (Q u && decide (k = c)) = true then 1 else 0).sum = if k < n then 1 else 0 := by
        intro n k
        induction n with
        | zero => rfl
        | succ n ih =>
          rw [List.range_succ, List.map_append, List.sum_append, ih]
          simp only [List.map_cons, List.map_nil, List.sum_cons, List.sum_nil, hQ, Bool.true_and, decide_eq_true_eq]
          repeat' split
          all_goals omega
      rw [one q (g u), if_pos (g u).isLt]
    · rw [if_neg hQ]
      have : (fun c => if (Q u && decide ((g u : Nat) = c)) = true then 1 else 0) = fun _ : Nat => 0 := by
        funext c
        rw [if_neg]
        simp [hQ]
      rw [this, List.map_const', List.sum_replicate_nat, Nat.mul_zero]
theorem vn_cons {W : Nat} {r : Vc q} {vs : List (Vc q)} {u : List Int} : vnB q W (r :: vs) u = (vnB q W vs u && decide (((dot (vec q u) r W : Fin q) : Nat) = 0)) := by
  unfold vnB
  rw [List.all_cons, Bool.and_comm]
  congr 1
  rw [Bool.eq_iff_iff, decide_eq_true_eq, decide_eq_true_eq]
  constructor
  · intro h
    rw [h]
    rfl
  · intro h
    exact Fin.ext h
/-- one vector outside the span more -/
theorem nv_out (hF : Fld q) {W : Nat} {vs : List (Vc q)} (hs : ∀ v ∈ vs, Sup W v) {r : Vc q} (hr : Sup W r) (hn : ¬ spn vs r) : q * Nv q W (r :: vs) = Nv q W vs := by
  obtain ⟨U, g1, g2⟩ := dual hF hs hr hn
  obtain ⟨a, ha⟩ : ∃ a : List Int, a = (List.range W).map fun i => ((U i : Nat) : Int) := ⟨_, rfl⟩
  have va : ∀ v, dot (vec q a) v W = dot U v W := fun v => dot_ext fun i hi => by
    show iv q (ga a i) = U i
    have : ga a i = ((U i : Nat) : Int) := by
      rw [ha]
      unfold ga
      simp [List.getD_eq_getElem?_getD, hi]
    rw [this, iv_sur]
  have fib : ∀ c : Nat, c < q → (apI q W).countP (fun u => vnB q W vs u && decide (((dot (vec q u) r W : Fin q) : Nat) = c)) = Nv q W (r :: vs) := fun c hc => by
    have pm := (sh_perm (q := q) W (c : Int) a).countP_eq fun u => vnB q W vs u && decide (((dot (vec q u) r W : Fin q) : Nat) = c)
    rw [← pm, List.countP_map]
    unfold Nv
    refine List.countP_congr fun u _ => ?_
    rw [vn_cons, Function.comp_apply]
    have e1 : vnB q W vs (shI q W (c : Int) a u) = vnB q W vs u := by
      unfold vnB
      rw [Bool.eq_iff_iff, List.all_eq_true, List.all_eq_true]
      have ee : ∀ v ∈ vs, dot (vec q (shI q W (c : Int) a u)) v W = dot (vec q u) v W := fun v hv => by
        rw [dot_sh, va, g1 v hv]
        grind
      exact ⟨fun h v hv => by have := h v hv; rw [ee v hv] at this; exact this, fun h v hv => by rw [ee v hv]; exact h v hv⟩
    have e2 : dot (vec q (shI q W (c : Int) a u)) r W = dot (vec q u) r W + iv q (c : Int) := by
      rw [dot_sh, va, g2]
      grind
    have e3 : (((dot (vec q (shI q W (c : Int) a u)) r W : Fin q) : Nat) = c) ↔ ((dot (vec q u) r W : Fin q) : Nat) = 0 := by
      have hc2 : iv q (c : Int) = (⟨c, hc⟩ : Fin q) := iv_sur ⟨c, hc⟩
      rw [e2, hc2]
      constructor
      · intro h
        have h' : dot (vec q u) r W + (⟨c, hc⟩ : Fin q) = ⟨c, hc⟩ := Fin.ext h
        have : dot (vec q u) r W = 0 := by grind
        rw [this]
        rfl
      · intro h
        have h' : dot (vec q u) r W = 0 := Fin.ext h
        rw [h']
        have : (0 : Fin q) + (⟨c, hc⟩ : Fin q) = ⟨c, hc⟩ := by grind
        rw [this]
    rw [e1, Bool.and_eq_true, Bool.and_eq_true, decide_eq_true_eq, decide_eq_true_eq, e3]
  have sp := count_split (fun u : List Int => (dot (vec q u) r W : Fin q)) (vnB q W vs) (apI q W)
  have e : ((List.range q).map fun c => (apI q W).countP fun u => vnB q W vs u && decide (((dot (vec q u) r W : Fin q) : Nat) = c)) = (List.range q).map fun _ => Nv q W (r :: vs) := List.map_congr_left fun c hc => fib c (List.mem_range.mp hc)
  rw [e, List.map_const', List.sum_replicate_nat, List.length_range] at sp
  exact sp
theorem nv_in {W : Nat} {vs : List (Vc q)} {r : Vc q} (h : spn vs r) : Nv q W (r :: vs) = Nv q W vs := by
  unfold Nv
  refine List.countP_congr fun u _ => ?_
  unfold vnB
  rw [List.all_cons, Bool.and_eq_true, decide_eq_true_eq]
  refine ⟨fun z => z.2, fun z => ⟨dot_spn (fun v hv => of_decide_eq_true (List.all_eq_true.mp z v hv)) h, z⟩⟩
theorem nv_pow (hF : Fld q) {W : Nat} : ∀ {vs : List (Vc q)}, (∀ v ∈ vs, Sup W v) → Nv q W vs = q ^ (W - inc vs) ∧ inc vs ≤ W
  | [], _ => by
    refine ⟨?_, Nat.zero_le _⟩
    unfold Nv
    have : (fun u => vnB q W [] u) = fun _ => true := rfl
    have e : vnB q W ([] : List (Vc q)) = fun _ => true := rfl
    rw [e, List.countP_true, ap_len q (by omega)]
    rfl
  | r :: vs, h => by
    obtain ⟨i1, i2⟩ := nv_pow hF (vs := vs) fun v hv => h v (by simp [hv])
    have i3 : inc (r :: vs) ≤ W := by
      rw [← dim_inc hF h]
      exact dim_le W _
    refine ⟨?_, i3⟩
    by_cases hs : spn vs r
    · have hi : inc (r :: vs) = inc vs := by
        show inc vs + (if spn vs r then 0 else 1) = _
        rw [if_pos hs]
        rfl
      rw [nv_in hs, i1, hi]
    · have hout := nv_out hF (fun v hv => h v (by simp [hv])) (h r (by simp)) hs
      have hi : inc (r :: vs) = inc vs + 1 := by
        show inc vs + (if spn vs r then 0 else 1) = _
        rw [if_neg hs]
      rw [hi] at i3 ⊢
      rw [i1] at hout
      have e : W - inc vs = (W - (inc vs + 1)) + 1 := by omega
      rw [e, Nat.pow_succ, Nat.mul_comm] at hout
      have q0 : 0 < q := Nat.pos_of_ne_zero (NeZero.ne q)
      exact Nat.eq_of_mul_eq_mul_right q0 hout
end
end K94
end

section
set_option Elab.async false
set_option linter.all false
set_option maxHeartbeats 4000000
namespace K94
open PySem PySem.Spec PyProof.Rows La
open Classical
section
variable {q : Nat} [NeZero q]
abbrev VX (q : Nat) [NeZero q] (x : List Int) : Vc q := vec q (ex1 x)
theorem iv_dot (u x : List Int) : ∀ n, iv q (dotI u x n) = dot (vec q u) (vec q x) n
  | 0 => iv_zero
  | n + 1 => by
    show iv q (dotI u x n + ga u n * ga x n) = dot (vec q u) (vec q x) n + vec q u n * vec q x n
    rw [iv_add, iv_mul, iv_dot u x n]
    rfl
theorem dot_ext2 {u : Vc q} {v v' : Vc q} : ∀ {n : Nat}, (∀ i, i < n → v i = v' i) → dot u v n = dot u v' n
  | 0, _ => rfl
  | n + 1, h => by
    show dot u v n + u n * v n = dot u v' n + u n * v' n
    rw [dot_ext2 fun i hi => h i (by omega), h n (by omega)]
theorem sv_dot (hq : 1 < q) {w : Nat} {u x : List Int} (hx : x.length = w) : svI q w u x = 0 ↔ dot (vec q u) (VX q x) (w + 1) = 0 := by
  have e : iv q (svI q w u x) = dot (vec q u) (VX q x) (w + 1) := by
    unfold svI
    rw [iv_mod, iv_add, iv_dot]
    show iv q (ga u w) + dot (vec q u) (vec q x) w = dot (vec q u) (VX q x) w + vec q u w * VX q x w
    have e1 : dot (vec q u) (VX q x) w = dot (vec q u) (vec q x) w := dot_ext2 fun i hi => by
      show iv q (ga (ex1 x) i) = iv q (ga x i)
      rw [ga_ex1 hx, if_pos hi]
    have e2 : VX q x w = 1 := by
      show iv q (ga (ex1 x) w) = 1
      rw [ga_ex1 hx, if_neg (by omega), if_pos rfl, iv_one hq]
    rw [e1, e2]
    show iv q (ga u w) + _ = _ + iv q (ga u w) * 1
    grind
  rw [← e]
  exact (iv_eq0 (x := svI q w u x) ⟨Int.emod_nonneg _ (by omega), Int.emod_lt_of_pos _ (by omega)⟩).symm
/-- a lot of the rows put to a base -/
def lotV {α : Type} : List Bool → List α → List α → List α
  | true :: s, r :: rows, a => lotV s rows (r :: a)
  | false :: s, _ :: rows, a => lotV s rows a
  | _, _, a => a
theorem lot_mem {α : Type} {x : α} : ∀ {s : List Bool} {rows a : List α}, x ∈ lotV s rows a → x ∈ rows ∨ x ∈ a
  | [], rows, a, h => by
    cases rows <;> exact .inr h
  | t :: s, [], a, h => by
    cases t <;> exact .inr h
  | true :: s, r :: rows, a, h => by
    have h' : x ∈ lotV s rows (r :: a) := h
    rcases lot_mem h' with h | h
    · exact .inl (List.mem_cons_of_mem _ h)
    · rcases List.mem_cons.mp h with h | h
      · exact .inl (by rw [h]; exact List.mem_cons_self)
      · exact .inr h
  | false :: s, r :: rows, a, h => by
    have h' : x ∈ lotV s rows a := h
    rcases lot_mem h' with h | h
    · exact .inl (List.mem_cons_of_mem _ h)
    · exact .inr h
theorem inc_pl (f : List (Vc q) → Int) : ∀ (rows a : List (Vc q)), incE rows.length (fun s => f (lotV s rows a)) = Pl f a rows
  | [], a => rfl
  | r :: rows, a => by
    show incE rows.length (fun s => f (lotV s rows a)) - incE rows.length (fun s => f (lotV s rows (r :: a))) = Pl f a rows - Pl f (r :: a) rows
    rw [inc_pl f rows a, inc_pl f rows (r :: a)]
def b01 (b : Bool) : Int := if b = true then 1 else 0
theorem phi_lot (hq : 1 < q) {w : Nat} (u : List Int) : ∀ (B : List (List Int)) (s : List Bool) (a : List (Vc q)), s.length = B.length → (∀ x ∈ B, x.length = w) → b01 (vnB q (w + 1) a u) * phi s (mk q w B u) = b01 (vnB q (w + 1) (lotV s (B.map (VX q)) a) u)
  | [], [], a, _, _ => by
    show b01 _ * 1 = _
    rw [Int.mul_one]
    rfl
  | [], _ :: _, _, h, _ => by simp at h
  | _ :: _, [], _, h, _ => by simp at h
  | b :: B, false :: s, a, h, hB => phi_lot hq u B s a (by simpa using h) fun x hx => hB x (by simp [hx])
  | b :: B, true :: s, a, h, hB => by
    have ih := phi_lot hq u B s (VX q b :: a) (by simpa using h) fun x hx => hB x (by simp [hx])
    show b01 (vnB q (w + 1) a u) * ((if svI q w u b = 0 then (1 : Int) else 0) * phi s (mk q w B u)) = b01 (vnB q (w + 1) (lotV s (B.map (VX q)) (VX q b :: a)) u)
    rw [← ih, ← Int.mul_assoc]
    congr 1
    have e : vnB q (w + 1) (VX q b :: a) u = (decide (dot (vec q u) (VX q b) (w + 1) = 0) && vnB q (w + 1) a u) := by
      unfold vnB
      rw [List.all_cons]
    have hd := sv_dot hq (u := u) (hB b (by simp))
    rw [e]
    unfold b01
    by_cases h1 : svI q w u b = 0
    · rw [if_pos h1, decide_eq_true (hd.mp h1), Bool.true_and, Int.mul_one]
    · rw [if_neg h1, decide_eq_false (fun z => h1 (hd.mpr z)), Bool.false_and]
      simp
theorem van_vn (hq : 1 < q) {w : Nat} {R : List (List Int)} (hR : ∀ x ∈ R, x.length = w) (u : List Int) : van q w R u = vnB q (w + 1) (R.map (VX q)) u := by
  unfold van vnB
  rw [List.all_map, Bool.eq_iff_iff, List.all_eq_true, List.all_eq_true]
  constructor
  · intro h x hx
    exact decide_eq_true ((sv_dot hq (hR x hx)).mp (of_decide_eq_true (h x hx)))
  · intro h x hx
    exact decide_eq_true ((sv_dot hq (hR x hx)).mpr (of_decide_eq_true (h x hx)))
theorem sum_filter (P : List Int → Bool) (F : List Int → Int) : ∀ L : List (List Int), ((L.filter P).map F).sum = (L.map fun u => b01 (P u) * F u).sum
  | [] => rfl
  | u :: L => by
    have ih := sum_filter P F L
    rw [List.map_cons, List.sum_cons, ← ih]
    by_cases h : P u = true
    · rw [List.filter_cons_of_pos h, List.map_cons, List.sum_cons]
      unfold b01
      rw [if_pos h, Int.one_mul]
    · rw [List.filter_cons_of_neg h]
      unfold b01
      rw [if_neg h, Int.zero_mul, Int.zero_add]
theorem sum_count (P : List Int → Bool) : ∀ L : List (List Int), (L.map fun u => b01 (P u)).sum = ((L.countP P : Nat) : Int)
  | [] => rfl
  | u :: L => by
    rw [List.map_cons, List.sum_cons, sum_count P L, List.countP_cons]
    unfold b01
    split <;> omega
theorem lf_nv (hq : 1 < q) {w : Nat} {R B : List (List Int)} (hR : ∀ x ∈ R, x.length = w) (hB : ∀ x ∈ B, x.length = w) (s : List Bool) (hs : s.length = B.length) : lf (phi s) (mkF q w R B) = ((Nv q (w + 1) (lotV s (B.map (VX q)) (R.map (VX q))) : Nat) : Int) := by
  obtain ⟨_, _, h3⟩ := mkF_ok q w B (SS q w R) [] 0 (OkT.nil _) (fun q hq => nomatch hq)
  have e := h3 (phi s)
  have e0 : lf (phi s) (mkF q w R B) = (0 : Int) + ((SS q w R).map fun u => phi s (mk q w B u)).sum := e
  rw [e0, Int.zero_add]
  unfold SS
  rw [sum_filter]
  have e2 : ((apI q (w + 1)).map fun u => b01 (van q w R u) * phi s (mk q w B u)) = (apI q (w + 1)).map fun u => b01 (vnB q (w + 1) (lotV s (B.map (VX q)) (R.map (VX q))) u) := List.map_congr_left fun u _ => by
    rw [van_vn hq hR, phi_lot hq u B s _ hs hB]
  rw [e2, sum_count]
  rfl
/-- the law's count, told by dimensions -/
noncomputable def hkP (q : Nat) [NeZero q] (W k : Nat) (vs : List (Vc q)) : Int := (((q ^ (W - dim W (spn vs)) : Nat) : Int)) ^ k
theorem due_pl (hF : Fld q) (hq : 1 < q) {w : Nat} {R B : List (List Int)} (hR : ∀ x ∈ R, x.length = w) (hB : ∀ x ∈ B, x.length = w) (k : Nat) : coG (gN (mkF q w R B) (onesG B.length) k) (List.replicate B.length 0) = Pl (hkP q (w + 1) k) (R.map (VX q)) (B.map (VX q)) := by
  obtain ⟨ok, _, _⟩ := mkF_ok q w B (SS q w R) [] 0 (OkT.nil _) (fun q hq => nomatch hq)
  have ok : OkT B.length (mkF q w R B) := ok
  rw [due_inc ok k, ← inc_pl, List.length_map]
  refine inc_congr fun s hs => ?_
  rw [lf_nv hq hR hB s hs]
  have sup : ∀ v ∈ lotV s (B.map (VX q)) (R.map (VX q)), Sup (w + 1) v := fun v hv => by
    rcases lot_mem hv with h | h
    · obtain ⟨x, hx, rfl⟩ := List.mem_map.mp h
      exact vec_sup (by simp [ex1, hB x hx])
    · obtain ⟨x, hx, rfl⟩ := List.mem_map.mp h
      exact vec_sup (by simp [ex1, hR x hx])
  rw [(nv_pow hF sup).1]
  unfold hkP
  rw [dim_inc hF sup]
/-! the polynomial's value -/
theorem foldl_sum (F : Int × Int → Int) : ∀ (l : List (Int × Int)) (t : Int), l.foldl (fun t q => t + F q) t = t + (l.map F).sum
  | [], t => by simp
  | x :: l, t => by
    rw [List.foldl_cons, foldl_sum F l, List.map_cons, List.sum_cons]
    omega
theorem sum_filt0 (c : Int → Int) (X : Int → Int) : ∀ l : List Int, (((l.filter fun e => decide (c e ≠ 0)).map fun e => (e, c e)).map fun q => q.2 * X q.1).sum = (l.map fun e => c e * X e).sum
  | [] => rfl
  | e :: l => by
    have ih := sum_filt0 c X l
    rw [List.map_cons, List.sum_cons, ← ih]
    by_cases h : c e = 0
    · rw [List.filter_cons_of_neg (by simp [h]), h, Int.zero_mul, Int.zero_add]
    · rw [List.filter_cons_of_pos (by simp [h]), List.map_cons, List.map_cons, List.sum_cons]
theorem pl_sum (f : Int → List (Vc q) → Int) (X : Int → Int) : ∀ (l : List Int) (rows a : List (Vc q)), (l.map fun e => Pl (f e) a rows * X e).sum = Pl (fun b => (l.map fun e => f e b * X e).sum) a rows
  | [], rows, a => by
    have key : ∀ (rows a : List (Vc q)), Pl (fun _ => (0 : Int)) a rows = 0 := by
      intro rows
      induction rows with
      | nil => intro a; rfl
      | cons r rows ih =>
        intro a
        show Pl _ a rows - Pl _ (r :: a) rows = 0
        rw [ih, ih]
        rfl
    exact (key rows a).symm
  | e :: l, rows, a => by
    have ih := pl_sum f X l rows a
    rw [List.map_cons, List.sum_cons, ih]
    have key : ∀ (g h : List (Vc q) → Int) (c : Int) (rows a : List (Vc q)), Pl g a rows * c + Pl h a rows = Pl (fun b => g b * c + h b) a rows := by
      intro g h c rows
      induction rows with
      | nil => intro a; rfl
      | cons r rows ih =>
        intro a
        show (Pl g a rows - Pl g (r :: a) rows) * c + (Pl h a rows - Pl h (r :: a) rows) = Pl _ a rows - Pl _ (r :: a) rows
        rw [← ih, ← ih, Int.sub_mul]
        omega
    rw [key]
    rfl
theorem one_term (W d k : Nat) (hd : d ≤ W) (X : Int → Int) : ((dn W).map fun e => (if (W : Int) - d = e then (1 : Int) else 0) * X e).sum = X ((W : Int) - d) := by
  have key : ∀ l : List Int, l.Pairwise (· > ·) → (l.map fun e => (if (W : Int) - d = e then (1 : Int) else 0) * X e).sum = if (W : Int) - d ∈ l then X ((W : Int) - d) else 0 := by
    intro l
    induction l with
    | nil => intro _; rfl
    | cons e l ih =>
      intro h
      rw [List.pairwise_cons] at h
      rw [List.map_cons, List.sum_cons, ih h.2]
      by_cases he : (W : Int) - d = e
      · have hn : ¬ (W : Int) - d ∈ l := fun z => by
          have := h.1 _ z
          omega
        rw [if_pos he, if_neg hn, if_pos (by rw [he]; exact List.mem_cons_self), ← he]
        omega
      · rw [if_neg he]
        by_cases hm : (W : Int) - d ∈ l
        · rw [if_pos hm, if_pos (List.mem_cons_of_mem _ hm)]
          omega
        · rw [if_neg hm, if_neg (fun z => by
            rcases List.mem_cons.mp z with z | z
            · exact he z
            · exact hm z)]
          omega
  rw [key _ (dn_pw W), if_pos ((mem_dn W _).mpr (by omega))]
theorem val_pl {w : Nat} (R B : List (List Int)) (k : Nat) : valL q k (ansL (PQ q w R B) (w + 1)) = Pl (hkP q (w + 1) k) (R.map (VX q)) (B.map (VX q)) := by
  have e1 : valL q k (ansL (PQ q w R B) (w + 1)) = (0 : Int) + ((ansL (PQ q w R B) (w + 1)).map fun x => x.2 * (q : Int) ^ (k * x.1.toNat)).sum := foldl_sum (fun x => x.2 * (q : Int) ^ (k * x.1.toNat)) _ 0
  rw [e1, Int.zero_add]
  unfold ansL
  rw [sum_filt0 (PQ q w R B) (fun e => (q : Int) ^ (k * e.toNat))]
  have e2 : ((dn (w + 1)).map fun e => PQ q w R B e * (q : Int) ^ (k * e.toNat)) = (dn (w + 1)).map fun e => Pl (fE q (w + 1) e) (R.map (VX q)) (B.map (VX q)) * (q : Int) ^ (k * e.toNat) := List.map_congr_left fun e _ => by
    unfold PQ PP
    rw [List.map_map, List.map_map]
    rfl
  rw [e2, pl_sum (fun e => fE q (w + 1) e) (fun e => (q : Int) ^ (k * e.toNat))]
  congr 1
  funext b
  have hd := dim_le (q := q) (w + 1) (spn b)
  have := one_term (w + 1) (dim (w + 1) (spn b)) k hd (fun e => (q : Int) ^ (k * e.toNat))
  unfold fE
  rw [this]
  unfold hkP
  have e3 : (((w + 1 : Nat) : Int) - (dim (w + 1) (spn b) : Nat)).toNat = w + 1 - dim (w + 1) (spn b) := by omega
  rw [e3, Int.natCast_pow, ← Int.pow_mul, Nat.mul_comm]
theorem due_val (hF : Fld q) (hq : 1 < q) {w : Nat} {R B : List (List Int)} (hR : ∀ x ∈ R, x.length = w) (hB : ∀ x ∈ B, x.length = w) (k : Nat) : coG (gN (mkF q w R B) (onesG B.length) k) (List.replicate B.length 0) = valL q k (ansL (PQ q w R B) (w + 1)) := by
  rw [due_pl hF hq hR hB k, val_pl]
end
end K94
end

section
set_option Elab.async false
set_option linter.all false
set_option maxRecDepth 100000
set_option maxHeartbeats 4000000
namespace K94
open PySem PySem.Spec PyProof.Rows Dp
theorem c_6r (n : Nat) (b : Int) (hb : 0 ≤ b ∧ b ≤ 1000000) (k : Nat) (hk : k ≤ 1000) (m : Mu) : callN G (n + 1) 6 [.int b, .int (k : Nat)] m = .ok (.val (.int (b ^ k))) m := by
  rw [o_6]
  have key := forL_run (fg := [3]) (F := fun d s1 m2 => evSs G (callN G n) l_6_0 (s1.set 3 (some (.val d))) m2) (m := m) (fun t : Int => [some (.val (.int b)), some (.val (.int k)), some (.val (.int t)), none]) (fun t _ => t * b) (fun t d => [some (.val (.int b)), some (.val (.int k)), some (.val (.int (t * b))), some (.val d)]) (fun _ _ => rfl) ((List.range k).map fun i => D.int (i : Nat)) 1
    (fun t d _ => by simp -implicitDefEqProofs [l_6_0, evSs, evS, evE, evP, bindT]; rw [b_mulS (by omega) (by omega)]; simp)
  have hr := r62_nat hk
  simp -implicitDefEqProofs [b_6, evSs, evS, evE, evP, evI, bindT, hr, key, fold_pow]
theorem isi_tup (ds : List D) : isTyD G.subs (.tup ds) (.bt "tuple") = some true := rfl
/-- falling, none of them 0 -/
def Fl (t : Int) : List (Int × Int) → Prop
  | [] => True
  | q :: l => (0 ≤ q.1 ∧ q.1 < t ∧ q.2 ≠ 0) ∧ Fl q.1 l
theorem c_33r (n : Nat) (m : Mu) (w : Nat) (l : List (Int × Int)) (h : Fl ((w : Int) + 1) l) : callN G (n + 2) 33 [.tup (l.map prD), .int (w : Nat)] m = .ok (.val (.bl true)) m := by
  obtain ⟨b, _, h2⟩ := forL_ex (fg := [3]) (F := bodyF (callN G (n + 1)) (.nm 3) l_33_0) prD (fun t : Int => [some (.val (.tup (l.map prD))), some (.val (.int (w : Nat))), some (.val (.int t)), none]) (fun _ => m) (fun xs t => Fl t xs)
    (fun x xs t hb => by
      obtain ⟨⟨g1, g2, g3⟩, g4⟩ := hb
      have j0 : opIx (.tup [.int x.1, .int x.2]) (.int 0) m = .ok (.val (.int x.1)) m := rfl
      have j1 : opIx (.tup [.int x.1, .int x.2]) (.int 1) m = .ok (.val (.int x.2)) m := rfl
      exact ⟨x.1, g4, [some (.val (.tup (l.map prD))), some (.val (.int (w : Nat))), some (.val (.int x.1)), some (.val (prD x))], by simp -implicitDefEqProofs [↓evS_for, ↓evE_lc, evSs, evS, evE, evEs, evP, evPs, evI, evB, evBor, evBand, evO, evOB, evAnd, bindT, wipeS, bodyF, l_33_0, isi_tup, j0, j1, c_28, g1, g2, g3], rfl⟩)
    l ((w : Int) + 1) h
  rw [o_33]
  simp -implicitDefEqProofs [↓evS_for, ↓evE_lc, evSs, evS, evE, evEs, evP, evPs, evI, evB, evBor, evBand, evO, evOB, evAnd, bindT, wipeS, b_33, isi_tup, h2]
theorem ans_fl {c : Int → Int} (w : Nat) : Fl ((w : Int) + 1) (ansL c w) := by
  have key : ∀ (l : List Int) (t : Int), l.Pairwise (· > ·) → (∀ x ∈ l, 0 ≤ x ∧ x < t) → Fl t ((l.filter fun e => decide (c e ≠ 0)).map fun e => (e, c e)) := by
    intro l
    induction l with
    | nil => intro t _ _; trivial
    | cons e l ih =>
      intro t hp hx
      rw [List.pairwise_cons] at hp
      have he := hx e (by simp)
      by_cases h : c e = 0
      · rw [List.filter_cons_of_neg (by simp [h])]
        exact ih t hp.2 fun x hx' => hx x (by simp [hx'])
      · rw [List.filter_cons_of_pos (by simp [h]), List.map_cons]
        refine ⟨⟨he.1, he.2, h⟩, ih e hp.2 fun x hx' => ⟨(hx x (by simp [hx'])).1, hp.1 x hx'⟩⟩
  refine key _ _ (dn_pw w) fun x hx => ?_
  have := (mem_dn w x).mp hx
  omega
/-! a list of two lists of points beside itself -/
theorem eq_pl2 (a b : List (List Int)) : eqD? (.lst [pl a, pl b]) (.lst [pl a, pl b]) = some true := by
  have p1 : D.py (.lst [pl a, pl b]) = some (.list [.list (a.map fun l => PyData.tuple (l.map PyData.int)), .list (b.map fun l => PyData.tuple (l.map PyData.int))]) := by
    show (D.pys [pl a, pl b]).map PyData.list = _
    show ((D.py (pl a)).bind fun p => (D.pys [pl b]).map fun ps => p :: ps).map PyData.list = _
    rw [py_pl]
    show (((D.py (pl b)).bind fun p => (D.pys []).map fun ps => p :: ps).map fun ps => PyData.list (a.map fun l => PyData.tuple (l.map PyData.int)) :: ps).map PyData.list = _
    rw [py_pl]
    rfl
  unfold eqD?
  rw [p1]
  dsimp only
  obtain ⟨h1, h2⟩ := sh_pts a
  obtain ⟨h3, h4⟩ := sh_pts b
  have sh : SeqAt.shaped (.list [.list (a.map fun l => PyData.tuple (l.map PyData.int)), .list (b.map fun l => PyData.tuple (l.map PyData.int))]) = true := by
    simp only [SeqAt.shaped, PyData.canLay0, PyData.canLayAll0, PyData.depth, PyData.depthAll, h1, h3, Bool.true_and, Bool.and_true, decide_eq_true_eq]
    exact decide_eq_true (by omega)
  rw [sh, if_pos (by rfl)]
  simp only [PyData.eqv, PyData.eqvAll, Bool.and_true]
  rw [eqv_pts, eqv_pts]
  simp
theorem ne_pl2 (a b : List (List Int)) (m : Mu) : opC .ne (.lst [pl a, pl b]) (.lst [pl a, pl b]) m = .ok (.val (.bl false)) m := by
  refine c_of ?_
  show (eqD? (.lst [pl a, pl b]) (.lst [pl a, pl b])).map not = _
  rw [eq_pl2]
  rfl
/-! the value less its value at 1 -/
theorem pow_dvd (x : Int) : ∀ e : Nat, (x - 1) ∣ (x ^ e - 1)
  | 0 => ⟨0, by rw [Int.pow_zero]; omega⟩
  | e + 1 => by
    obtain ⟨c, hc⟩ := pow_dvd x e
    refine ⟨x ^ e + c, ?_⟩
    rw [Int.pow_succ, Int.mul_add, ← hc, Int.sub_mul, Int.mul_comm (x ^ e) x]
    omega
theorem val_dvd (p : Int) (k : Nat) : ∀ l : List (Int × Int), (p ^ k - 1) ∣ ((l.map fun x => x.2 * p ^ (k * x.1.toNat)).sum - (l.map fun x => x.2 * p ^ (0 * x.1.toNat)).sum)
  | [] => ⟨0, by simp⟩
  | x :: l => by
    obtain ⟨c, hc⟩ := val_dvd p k l
    obtain ⟨d, hd⟩ := pow_dvd (p ^ k) x.1.toNat
    rw [← Int.pow_mul] at hd
    refine ⟨x.2 * d + c, ?_⟩
    rw [List.map_cons, List.map_cons, List.sum_cons, List.sum_cons, Nat.zero_mul, Int.pow_zero, Int.mul_one, Int.mul_add, ← hc, Int.mul_left_comm, ← hd, Int.mul_sub, Int.mul_one]
    simp only [Nat.zero_mul, Int.pow_zero, Int.mul_one]
    omega
theorem valL_sum (p : Int) (k : Nat) (l : List (Int × Int)) : valL p k l = (l.map fun x => x.2 * p ^ (k * x.1.toNat)).sum := by
  have : valL p k l = (0 : Int) + (l.map fun x => x.2 * p ^ (k * x.1.toNat)).sum := foldl_sum (fun x => x.2 * p ^ (k * x.1.toNat)) l 0
  rw [this, Int.zero_add]
theorem valL_dvd {q : Nat} [NeZero q] (hF : La.Fld q) (hq : 1 < q) {w : Nat} {R B : List (List Int)} (hR : ∀ x ∈ R, x.length = w) (hB : ∀ x ∈ B, x.length = w) (hn : 0 < B.length) (k : Nat) : valL q k (ansL (PQ q w R B) (w + 1)) % ((q : Int) ^ k - 1) = 0 := by
  have h0 : valL q 0 (ansL (PQ q w R B) (w + 1)) = 0 := by
    rw [← due_val hF hq hR hB 0]
    show coG (onesG B.length) (List.replicate B.length 0) = 0
    unfold coG onesG
    have : ¬ (List.replicate B.length (1 : Int) = List.replicate B.length 0) := fun z => by
      cases hb : B.length with
      | zero => omega
      | succ n =>
        rw [hb, List.replicate_succ, List.replicate_succ] at z
        exact absurd (List.cons.inj z).1 (by decide)
    simp [this]
  have := val_dvd (q : Int) k (ansL (PQ q w R B) (w + 1))
  rw [← valL_sum, ← valL_sum, h0, Int.sub_zero] at this
  exact Int.emod_eq_zero_of_dvd this
end K94
end

section
set_option Elab.async false
set_option linter.all false
set_option maxRecDepth 100000
set_option maxHeartbeats 4000000
namespace K94
open PySem PySem.Spec PyProof.Rows Dp
theorem pow_le {q k : Nat} (h1 : 1 ≤ q) (h5 : q ≤ 5) (hk : k ≤ 6) : 1 ≤ (q : Int) ^ k ∧ (q : Int) ^ k ≤ 1000000 := by
  have a : 1 ≤ q ^ k := Nat.one_le_pow _ _ h1
  have b : q ^ k ≤ 5 ^ 6 := Nat.le_trans (Nat.pow_le_pow_left h5 k) (Nat.pow_le_pow_right (by decide) hk)
  have c : (5 : Nat) ^ 6 = 15625 := by decide
  have e : (q : Int) ^ k = ((q ^ k : Nat) : Int) := by rw [Int.natCast_pow]
  rw [e]
  omega
theorem t_34a (n : Nat) (m : Mu) (q : Nat) (h1 : 1 ≤ q) (h5 : q ≤ 5) (A : List (Int × Int)) (hA : ∀ x ∈ A, (0 ≤ x.1 ∧ x.1 ≤ 20) ∧ (-5000 ≤ x.2 ∧ x.2 ≤ 5000)) (k : Nat) (hk : k ≤ 6) (DU : List D) (hd : DU[k]? = some (.int (valL q k A))) (x1 x2 x3 x4 x6 : SV) (y8 : Option SV) :
    bodyF (callN G (n + 1)) (.nm 8) l_34_1 (.int (k : Nat)) [some (.val (.int q)), some x1, some x2, some x3, some x4, some (.val (.lst DU)), some x6, some (.val (.tup (A.map prD))), y8, none, none, none, none] m = .nx [some (.val (.int q)), some x1, some x2, some x3, some x4, some (.val (.lst DU)), some x6, some (.val (.tup (A.map prD))), some (.val (.int (k : Nat))), some (.val (.int (valL q k A))), none, none, none] m := by
  have pk := pow_le h1 h5 hk
  have key := forL_runf (m := m) (fg := [11, 12]) (F := bodyF (callN G (n + 1)) (.tp [11, 12]) l_34_0) prD (fun t : Int => [some (.val (.int q)), some x1, some x2, some x3, some x4, some (.val (.lst DU)), some x6, some (.val (.tup (A.map prD))), some (.val (.int (k : Nat))), some (.val (.int t)), none, none, none]) (fun t x => t + x.2 * (q : Int) ^ (k * x.1.toNat)) (fun _ => True) A 0 trivial (fun t x hx _ => by
    obtain ⟨⟨a1, a2⟩, a3, a4⟩ := hA x hx
    obtain ⟨e, he⟩ := Int.eq_ofNat_of_zero_le a1
    have he' : x.1.toNat = e := by omega
    have c1 := c_6r n (q : Int) (by omega) k (by omega) m
    have c2 := c_6r n ((q : Int) ^ k) (by omega) e (by omega) m
    rw [← Int.pow_mul, ← he] at c2
    have b := b_mulL (i := x.2) (j := (q : Int) ^ (k * e)) (m := m) (by omega) (by omega)
    refine ⟨trivial, [some (.val (.int q)), some x1, some x2, some x3, some x4, some (.val (.lst DU)), some x6, some (.val (.tup (A.map prD))), some (.val (.int (k : Nat))), some (.val (.int (t + x.2 * (q : Int) ^ (k * e)))), none, some (.val (.int x.1)), some (.val (.int x.2))], ?_, ?_⟩
    · generalize hP : (q : Int) ^ (k * e) = P at *
      generalize hP2 : (q : Int) ^ k = P2 at *
      simp -implicitDefEqProofs [↓evS_for, ↓evE_lc, evSs, evS, evE, evEs, evP, evPs, evI, evB, evBor, evBand, evO, evOB, evAnd, bindT, wipeS, bodyF, l_34_0, c1, c2, b]
    · rw [he']
      rfl)
  have fe : A.foldl (fun t x => t + x.2 * (q : Int) ^ (k * x.1.toNat)) 0 = valL q k A := rfl
  rw [fe] at key
  have ix : opIx (.lst DU) (.int (k : Nat)) m = .ok (.val (.int (valL q k A))) m := ix_lst (by omega) (by simpa using hd)
  generalize valL q k A = V at *
  generalize A.map prD = AD at *
  simp -implicitDefEqProofs [↓evS_for, ↓evE_lc, evSs, evS, evE, evEs, evP, evPs, evI, evB, evBor, evBand, evO, evOB, evAnd, bindT, wipeS, bodyF, l_34_1, key, ix]
theorem t_34b {q : Nat} [NeZero q] (hF : La.Fld q) (hp : Pr q) (h5 : q ≤ 5) (n : Nat) (m : Mu) (w : Nat) (hw : w ≤ 4) (R B : List (List Int)) (r0 : List Int) (h0 : R[0]? = some r0) (hR : ∀ u ∈ R, RowP q w u) (hB : ∀ u ∈ B, RowP q w u ∧ u ∉ R) (hl : B.length ≤ 10) (hf : R.length ≤ 20) (k : Nat) (hk : k ≤ 6) (DU : List D) (hd : DU[k]? = some (.int (valL q k (ansL (PQ q w R B) (w + 1))))) (x1 x4 x6 x7 : SV) (y8 y9 : Option SV) : ∃ z10,
    bodyF (callN G (n + 8)) (.nm 8) l_34_2 (.int (k : Nat)) [some (.val (.int q)), some x1, some (.val (pl R)), some (.val (pl B)), some x4, some (.val (.lst DU)), some x6, some x7, y8, y9, none, none, none] m = .nx [some (.val (.int q)), some x1, some (.val (pl R)), some (.val (pl B)), some x4, some (.val (.lst DU)), some x6, some x7, some (.val (.int (k : Nat))), y9, z10, none, none] m := by
  have hq1 : 1 < q := by rcases hp with h | h | h | h <;> omega
  have pk := pow_le (by omega : 1 ≤ q) h5 hk
  have c29 := c_29g hF hp n m w (by omega) R B r0 h0 hR hB hl hf k hk (.tup (R.map pt)) (.tup (B.map pt)) (.inr rfl) (.inr rfl)
  have c28 := c_28 (n + 7) (valL q k (ansL (PQ q w R B) (w + 1))) m
  have ix : opIx (.lst DU) (.int (k : Nat)) m = .ok (.val (.int (valL q k (ansL (PQ q w R B) (w + 1))))) m := ix_lst (by omega) (by simpa using hd)
  have c6 := c_6r (n + 7) (q : Int) (by omega) k (by omega) m
  have dv : 0 < B.length → valL q k (ansL (PQ q w R B) (w + 1)) % ((q : Int) ^ k - 1) = 0 := fun hn => valL_dvd hF hq1 (fun x hx => (hR x hx).1) (fun x hx => (hB x hx).1.1) hn k
  refine ⟨some (.val (.int (valL q k (ansL (PQ q w R B) (w + 1))))), ?_⟩
  have hpk : 0 < k → 0 < (q : Int) ^ k - 1 := fun h => by
    have : q ^ 1 ≤ q ^ k := Nat.pow_le_pow_right (by omega) h
    have e : (q : Int) ^ k = ((q ^ k : Nat) : Int) := by rw [Int.natCast_pow]
    rw [e]
    rw [Nat.pow_one] at this
    omega
  generalize valL q k (ansL (PQ q w R B) (w + 1)) = V at *
  generalize (q : Int) ^ k = P at *
  by_cases hn : 0 < B.length
  · by_cases hk0 : 0 < k
    · have b := b_mod (i := V) (j := P - 1) (m := m) (hpk hk0)
      have dv' := dv hn
      simp -implicitDefEqProofs [↓evS_for, ↓evE_lc, evSs, evS, evE, evEs, evP, evPs, evI, evB, evBor, evBand, evO, evOB, evAnd, bindT, wipeS, bodyF, l_34_2, c29, c28, ix, hn, hk0, c6, b, dv']
    · simp -implicitDefEqProofs [↓evS_for, ↓evE_lc, evSs, evS, evE, evEs, evP, evPs, evI, evB, evBor, evBand, evO, evOB, evAnd, bindT, wipeS, bodyF, l_34_2, c29, c28, ix, hn, hk0]
  · simp -implicitDefEqProofs [↓evS_for, ↓evE_lc, evSs, evS, evE, evEs, evP, evPs, evI, evB, evBor, evBand, evO, evOB, evAnd, bindT, wipeS, bodyF, l_34_2, c29, c28, ix, hn]
theorem c_34r {q : Nat} [NeZero q] (hF : La.Fld q) (hp : Pr q) (h5 : q ≤ 5) (n : Nat) (m : Mu) (w : Nat) (hw : w ≤ 4) (hpw : q ^ (w + 1) ≤ 500) (R B : List (List Int)) (r0 : List Int) (h0 : R[0]? = some r0) (hR : ∀ u ∈ R, RowP q w u) (hB : ∀ u ∈ B, RowP q w u ∧ u ∉ R) (hl : B.length ≤ 10) (hf : R.length ≤ 20) (ks : List Nat) (hks : ∀ k ∈ ks, k ≤ 6) :
    callN G (n + 9) 34 [.int q, .int (w : Nat), pl R, pl B, .lst (ks.map fun k => .int (k : Nat))] m = .ok (.val (.bl true)) m := by
  have hq1 : 1 < q := by rcases hp with h | h | h | h <;> omega
  have c32 := c_32r (n + 5) (q : Int) (by omega) m w (by omega) (by simpa using hpw) R B (by omega) hR (fun x hx => (hB x hx).1) hl
  have edue : ∀ k, coG (gN (mkF q w R B) (onesG B.length) k) (List.replicate B.length 0) = valL q k (ansL (PQ q w R B) (w + 1)) := fun k => due_val hF hq1 (fun x hx => (hR x hx).1) (fun x hx => (hB x hx).1.1) k
  have edu : (List.range 7).map (fun k => coG (gN (mkF q w R B) (onesG B.length) k) (List.replicate B.length 0)) = (List.range 7).map fun k => valL q k (ansL (PQ q w R B) (w + 1)) := List.map_congr_left fun k _ => edue k
  rw [edu] at c32
  have c10 := c_10g hF hp (n + 1) m w (by omega) R B r0 h0 hR hB hl hf (pl R) (pl B) (.inl rfl) (.inl rfl)
  have c33 := c_33r (n + 6) m (w + 1) (ansL (PQ q w R B) (w + 1)) (ans_fl (w + 1))
  have bd := ans_bd (q := q) w (by omega) R B hl
  obtain ⟨DU, hDU⟩ : ∃ t, t = ((List.range 7).map fun k => valL q k (ansL (PQ q w R B) (w + 1))).map D.int := ⟨_, rfl⟩
  have hd : ∀ k, k ≤ 6 → DU[k]? = some (.int (valL q k (ansL (PQ q w R B) (w + 1)))) := fun k hk => by
    rw [hDU, List.getElem?_map, List.getElem?_map, List.getElem?_range (by omega)]
    rfl
  rw [← hDU] at c32
  have tb := fun k hk x1 x4 x6 x7 y8 y9 => t_34b hF hp h5 n m w hw R B r0 h0 hR hB hl hf k hk DU (hd k hk) x1 x4 x6 x7 y8 y9
  generalize ansL (PQ q w R B) (w + 1) = A at *
  have z2 : (2 : Nat) ≤ sizeLine := szl (by decide)
  have j0 : opIx (.lst [pl R, pl B]) (.int 0) m = .ok (.val (pl R)) m := rfl
  have j1 : opIx (.lst [pl R, pl B]) (.int 1) m = .ok (.val (pl B)) m := rfl
  have ne := ne_pl2 R B m
  have eW : (w : Int) + 1 = ((w + 1 : Nat) : Int) := by omega
  obtain ⟨z8, _, l1⟩ := forL_ex (fg := [9, 11, 12]) (F := bodyF (callN G (n + 8)) (.nm 8) l_34_1) (fun i : Nat => D.int (i : Nat)) (fun b : Option SV => [some (.val (.int q)), some (.val (.int (w : Nat))), some (.val (pl R)), some (.val (pl B)), some (.val (.lst (ks.map fun k => .int (k : Nat)))), some (.val (.lst DU)), some (.val (.lst [pl R, pl B])), some (.val (.tup (A.map prD))), b, none, none, none, none]) (fun _ => m) (fun xs _ => ∀ x ∈ xs, x ≤ 6)
    (fun k xs b hb => ⟨some (.val (.int (k : Nat))), fun y hy => hb y (by simp [hy]), _, t_34a (n + 7) m q (by omega) h5 A bd k (hb k (by simp)) DU (hd k (hb k (by simp))) (.val (.int (w : Nat))) (.val (pl R)) (.val (pl B)) (.val (.lst (ks.map fun k => .int (k : Nat)))) (.val (.lst [pl R, pl B])) b, rfl⟩)
    (List.range 7) none (fun x hx => by have := List.mem_range.mp hx; omega)
  obtain ⟨y8, _, l2⟩ := forL_ex (fg := [10]) (F := bodyF (callN G (n + 8)) (.nm 8) l_34_2) (fun i : Nat => D.int (i : Nat)) (fun b : Option SV => [some (.val (.int q)), some (.val (.int (w : Nat))), some (.val (pl R)), some (.val (pl B)), some (.val (.lst (ks.map fun k => .int (k : Nat)))), some (.val (.lst DU)), some (.val (.lst [pl R, pl B])), some (.val (.tup (A.map prD))), b, none, none, none, none]) (fun _ => m) (fun xs _ => ∀ x ∈ xs, x ≤ 6)
    (fun k xs b hb => by
      obtain ⟨z, t⟩ := tb k (hb k (by simp)) (.val (.int (w : Nat))) (.val (.lst (ks.map fun k => .int (k : Nat)))) (.val (.lst [pl R, pl B])) (.val (.tup (A.map prD))) b none
      exact ⟨some (.val (.int (k : Nat))), fun y hy => hb y (by simp [hy]), _, t, rfl⟩)
    ks z8 hks
  obtain ⟨RG, hRG⟩ : ∃ t, t = (List.range 7).map fun i : Nat => D.int (i : Nat) := ⟨_, rfl⟩
  have hI : ∀ (cf : Nat → List D → Mu → Dp.R SV) (s : Sl) (m : Mu), evI G cf (.rng1 (.int 7)) s m = .ok RG m := fun cf s m => by
    rw [hRG]
    rfl
  rw [← hRG] at l1
  clear hRG hDU
  obtain ⟨W, hW⟩ : ∃ t, t = w + 1 := ⟨_, rfl⟩
  rw [← hW] at eW c33
  generalize A.map prD = AD at *
  generalize ks.map (fun k => D.int (k : Nat)) = KS at *
  rw [o_34]
  simp -implicitDefEqProofs [↓evS_for, ↓evE_lc, evSs, evS, evE, evEs, evP, evPs, evI, evB, evBor, evBand, evO, evOB, evAnd, bindT, wipeS, ↓hI, b_34, c32, z2, j0, j1, c10, ne, eW, c33, l1, l2]
end K94
end

section
set_option Elab.async false
set_option linter.all false
set_option maxRecDepth 100000
set_option maxHeartbeats 4000000
namespace K94
open PySem PySem.Spec PyProof.Rows Dp
theorem sl_tl (l : List Int) (m : Mu) : opSl (pt l) (some (1 : Int)) none m = .ok (.val (.tup ((l.drop 1).map .int))) m := by
  show Dp.R.ok (SV.val (.tup (Dp.cutD (l.map .int) (some ((1 : Nat) : Int)) none))) m = _
  rw [cut_from, List.map_drop]
theorem sl_to (R : List (List Int)) (k : Nat) (m : Mu) : opSl (pl R) none (some (k : Int)) m = .ok (.own (.lst ((R.take k).map pt))) m := by
  show Dp.R.ok (SV.own (.lst (Dp.cutD (R.map pt) none (some (k : Int))))) m = _
  rw [cut_to, List.map_take]
theorem sl_from (R : List (List Int)) (k : Nat) (m : Mu) : opSl (pl R) (some (k : Int)) none m = .ok (.own (.lst ((R.drop k).map pt))) m := by
  show Dp.R.ok (SV.own (.lst (Dp.cutD (R.map pt) (some (k : Int)) none))) m = _
  rw [cut_from, List.map_drop]
theorem g37_a (n : Nat) (q : Int) (w : Nat) (hw : 1 ≤ w ∧ w ≤ 10) (R : List (List Int)) (r0 : List Int) (h0 : R[0]? = some r0) (hR : ∀ u ∈ R, RowP q w u) (hf : R.length ≤ 20) (B : D) (d : List Int) (r : Mu) (x2 : SV) : ∃ (one : D) (k : Nat) (d' : List Int) (st : D), NotRow q w one ∧ (1 ≤ k ∧ k ≤ R.length) ∧
    evSs G (callN G (n + 1)) T37_1 [some (.val (.ref 0)), some (.val (.int q)), some x2, some (.val (pl R)), some (.val B), none, none, none, none, none, none] (MM d r) = evSs G (callN G (n + 1)) T37_5 [some (.val (.ref 0)), some (.val (.int q)), some x2, some (.val (pl R)), some (.val B), some (.val st), some (.val one), some (.val (.int (k : Nat))), some (.val (.lst ((R.take k).map pt ++ one :: (R.drop k).map pt))), none, none] (MM d' r) := by
  have hr0 := hR r0 (List.mem_of_getElem? h0)
  obtain ⟨v, d1, hv, t1⟩ := tkn n 5 (by decide) d r
  obtain ⟨k, d2, hk, t2⟩ := tkn n (R.length : Int) (by
    have : 0 < R.length := (List.getElem?_eq_some_iff.mp h0).1
    omega) d1 r
  have i0 : ∀ m, opIx (pl R) (.int 0) m = .ok (.val (pt r0)) m := fun m => ix_pl (i := 0) h0
  obtain ⟨TL, hTL⟩ : ∃ t, t = (r0.drop 1).map D.int := ⟨_, rfl⟩
  have tl : TL.length = w - 1 := by rw [hTL, List.length_map, List.length_drop, hr0.1]
  have s1 : ∀ m, opSl (pt r0) (some (1 : Int)) none m = .ok (.val (.tup TL)) m := fun m => by rw [hTL]; exact sl_tl r0 m
  have a1 : ∀ m, opB .add (pt r0) (.tup [.int 0]) m = .ok (.val (.tup (r0.map .int ++ [.int 0]))) m := fun m => tadd _ _ m (by simp [hr0.1]; omega)
  have a2 : ∀ (x : D) m, opB .add (.tup TL) (.tup [x]) m = .ok (.val (.tup (TL ++ [x]))) m := fun x m => tadd _ _ m (by simp [tl]; omega)
  have z1 : (1 : Nat) ≤ sizeLine := szl (by decide)
  have z5 : (5 : Nat) ≤ sizeLine := szl (by decide)
  have nr : ∀ x ∈ [D.tup TL, .tup (r0.map .int ++ [.int 0]), .tup (TL ++ [.int q]), .tup (TL ++ [.bl true]), .non], NotRow q w x := by
    have hdr : ∀ x ∈ r0.drop 1, 0 ≤ x ∧ x < q := fun x hx => hr0.2 x (List.mem_of_mem_drop hx)
    have hdl : (r0.drop 1).length + 1 = w := by rw [List.length_drop, hr0.1]; omega
    intro x hx
    simp only [List.mem_cons, List.not_mem_nil, or_false] at hx
    rcases hx with rfl | rfl | rfl | rfl | rfl
    · exact .inr (.inl ⟨r0.drop 1, by rw [hTL], by omega⟩)
    · exact .inr (.inl ⟨r0 ++ [0], by rw [pt, List.map_append]; rfl, by simp [hr0.1]⟩)
    · exact .inr (.inr ⟨r0.drop 1, .int q, by rw [hTL], hdl, hdr, .inl rfl⟩)
    · exact .inr (.inr ⟨r0.drop 1, .bl true, by rw [hTL], hdl, hdr, .inr rfl⟩)
    · exact .inl rfl
  clear hTL
  obtain ⟨SL, hSL⟩ : ∃ t, t = [D.tup TL, .tup (r0.map .int ++ [.int 0]), .tup (TL ++ [.int q]), .tup (TL ++ [.bl true]), .non] := ⟨_, rfl⟩
  have hlen : SL.length = 5 := by rw [hSL]; rfl
  obtain ⟨one, hone⟩ : ∃ one, SL[v]? = some one := ⟨SL[v]'(by omega), by simp [List.getElem?_eq_getElem (show v < SL.length by omega)]⟩
  have ix : ∀ m, opIx (.lst SL) (.int (v : Nat)) m = .ok (.val one) m := fun m => ix_lst (by omega) (by simpa using hone)
  refine ⟨one, k + 1, d2, .lst SL, nr one (by rw [← hSL]; exact List.mem_of_getElem? hone), by omega, ?_⟩
  have eS : ∀ (m : Mu) (s : Sl), True := fun _ _ => trivial
  have ek : (k : Int) + 1 = ((k + 1 : Nat) : Int) := by omega
  obtain ⟨K, hK⟩ : ∃ t, t = k + 1 := ⟨_, rfl⟩
  rw [← hK] at ek ⊢
  have st := sl_to R K
  have sf := sl_from R K
  obtain ⟨A1, hA1⟩ : ∃ t, t = (R.take K).map pt := ⟨_, rfl⟩
  obtain ⟨A2, hA2⟩ : ∃ t, t = (R.drop K).map pt := ⟨_, rfl⟩
  have l1 : A1.length ≤ 20 := by rw [hA1, List.length_map, List.length_take]; omega
  have l2 : A2.length ≤ 20 := by rw [hA2, List.length_map, List.length_drop]; omega
  have b1 : ∀ m, opB .add (.lst A1) (.lst [one]) m = .ok (.own (.lst (A1 ++ [one]))) m := fun m => ladd _ _ m (by simp; omega)
  have b2 : ∀ m, opB .add (.lst (A1 ++ [one])) (.lst A2) m = .ok (.own (.lst (A1 ++ one :: A2))) m := fun m => by
    rw [ladd _ _ m (by simp; omega)]
    simp
  simp only [← hA1] at st ⊢
  simp only [← hA2] at sf ⊢
  have slen : ∀ m, seeD m (pl R) = pl R := fun m => rfl
  have plen : ∀ m, opF .len [pl R] m = .ok (.val (.int (R.length : Nat))) m := fun m => by
    rw [f_len_lst, List.length_map]
  have eSL : (.tup TL :: .tup (r0.map .int ++ [.int 0]) :: .tup (TL ++ [.int q]) :: .tup (TL ++ [.bl true]) :: [D.non]) = SL := hSL.symm
  generalize hP0 : pt r0 = P0 at *
  have sP0 : ∀ m, seeD m P0 = P0 := fun m => by rw [← hP0]; rfl
  generalize hPR : pl R = PR at *
  generalize r0.map D.int ++ [.int 0] = Y1 at *
  have zS : SL.length ≤ sizeLine := by rw [hlen]; exact z5
  clear hA1 hA2 hSL hP0 hPR h0
  simp -implicitDefEqProofs [↓evS_for, ↓evE_lc, evSs, evS, evE, evEs, evP, evPs, evI, evB, evBor, evBand, evO, evOB, evAnd, bindT, wipeS, T37_1, T37_2, T37_3, T37_4, s37_1, s37_2, s37_3, s37_4, i0, sP0, slen, s1, z1, a1, a2, z5, zS, eSL, t1, ix, plen, t2, ek, st, sf, b1, b2]
end K94
end

section
set_option Elab.async false
set_option linter.all false
set_option maxRecDepth 100000
set_option maxHeartbeats 4000000
namespace K94
open PySem PySem.Spec PyProof.Rows Dp
theorem eq_tt (a b : List (List Int)) : eqD? (.tup (a.map pt)) (.tup (b.map pt)) = some (decide (a = b)) := by
  have p1 : ∀ a : List (List Int), D.py (.tup (a.map pt)) = some (.tuple (a.map fun l => PyData.tuple (l.map PyData.int))) := fun a => by
    show (D.pys (a.map pt)).map PyData.tuple = _
    rw [py_pts]
    rfl
  have sh : ∀ ps : List (List Int), SeqAt.shaped (.tuple (ps.map fun l => PyData.tuple (l.map PyData.int))) = true := fun ps => by
    obtain ⟨h1, h2⟩ := sh_pts ps
    show (PyData.canLayAll0 _ && decide (PyData.depthAll _ + 1 ≤ 64)) = true
    rw [h1, Bool.true_and, decide_eq_true_eq]
    omega
  unfold eqD?
  rw [p1, p1]
  dsimp only
  rw [sh, sh, ← eqv_pts]
  rfl
theorem pr_pt (l : List (Int × Int)) : l.map prD = (l.map fun q => [q.1, q.2]).map pt := by
  rw [List.map_map]
  rfl
theorem eq_pr (a : List (Int × Int)) (m : Mu) : opC .eq (.tup (a.map prD)) (.tup (a.map prD)) m = .ok (.val (.bl true)) m := by
  refine c_of ?_
  show eqD? _ _ = _
  rw [pr_pt, eq_tt]
  simp
theorem pq_twice {q : Nat} [NeZero q] {w : Nat} (R B : List (List Int)) (e : Int) : PQ q w (R ++ R.take 1) B e = PQ q w R B e := by
  refine pq_sm (La.sm_of (fun r hr => La.spn_mem ?_) fun r hr => La.spn_mem ?_) e
  · obtain ⟨y, hy, rfl⟩ := List.mem_map.mp hr
    obtain ⟨x, hx, rfl⟩ := List.mem_map.mp hy
    refine List.mem_map.mpr ⟨ex1 x, List.mem_map.mpr ⟨x, ?_, rfl⟩, rfl⟩
    rcases List.mem_append.mp hx with h | h
    · exact h
    · exact List.mem_of_mem_take h
  · obtain ⟨y, hy, rfl⟩ := List.mem_map.mp hr
    obtain ⟨x, hx, rfl⟩ := List.mem_map.mp hy
    exact List.mem_map.mpr ⟨ex1 x, List.mem_map.mpr ⟨x, List.mem_append_left _ hx, rfl⟩, rfl⟩
theorem g37_b {q : Nat} [NeZero q] (hF : La.Fld q) (hp : Pr q) (n : Nat) (w : Nat) (hw : 1 ≤ w ∧ w ≤ 10) (R B : List (List Int)) (r0 : List Int) (h0 : R[0]? = some r0) (hR : ∀ u ∈ R, RowP q w u) (hB : ∀ u ∈ B, RowP q w u ∧ u ∉ R) (hl : B.length ≤ 10) (hf : R.length ≤ 15) (d : List Int) (r : Mu) (x2 x5 : SV) (one : D) (k : Nat) (hk : 1 ≤ k ∧ k ≤ R.length) (h1 : NotRow q w one) : ∃ (d' : List Int),
    (evSs G (callN G (n + 8)) T37_5 [some (.val (.ref 0)), some (.val (.int q)), some x2, some (.val (pl R)), some (.val (pl B)), some x5, some (.val one), some (.val (.int (k : Nat))), some (.val (.lst ((R.take k).map pt ++ one :: (R.drop k).map pt))), none, none] (MM d r)).back = .ok (.val (.bl true)) (MM d' r) := by
  have hr0 := (hR r0 (List.mem_of_getElem? h0)).1
  obtain ⟨a, d1, ha, t1⟩ := tkn (n + 7) ((B.length : Int) + 1) (by omega) d r
  obtain ⟨m0, hm0⟩ : ∃ t, t = MM d r := ⟨_, rfl⟩
  obtain ⟨m1, hm1⟩ : ∃ t, t = MM d1 r := ⟨_, rfl⟩
  rw [← hm0, ← hm1] at t1
  refine ⟨d1, ?_⟩
  rw [← hm0, ← hm1]
  clear hm0 hm1
  -- the wrong right points
  have e1 : ∀ x : D, (x = .lst [] ∨ x = .non ∨ ∃ i, x = .int i) → callN G (n + 8) 36 [.int q, x, .non] m0 = .ok (.own (.lst [.str "place", .int (-1)])) m0 := fun x hx => c_36p (n + 7) m0 _ _ _ (-1) (c_10x n q m0 x .non (eBP (-1)) (c_11e (n + 3) q hp m0 x hx))
  have tk0 : (R.take k)[0]? = some r0 := by rw [List.getElem?_take_of_lt (by omega)]; exact h0
  have tl : (R.take k).length = k := by rw [List.length_take]; omega
  have c11b := c_11b (n + 3) q hp w (by omega) m0 (R.take k) r0 tk0 (fun l hl => hR l (List.mem_of_mem_take hl)) one ((R.drop k).map pt) h1
  rw [tl] at c11b
  have e2 := c_36p (n + 7) m0 _ _ _ (k : Int) (c_10x n q m0 _ .non (eBP (k : Nat)) c11b)
  have c11 := c_11g (n + 3) q hp w (by omega) m0 R r0 h0 (by omega) hR (pl R) (.inl rfl)
  have e3 := c_36p (n + 7) m0 _ _ _ (-1) (c_10y n q m0 (pl R) .non _ (eBP (-1)) c11 (c_15e (n + 3) q m0 _))
  have c11t := c_11g (n + 3) q hp w (by omega) m1 R r0 h0 (by omega) hR (.tup (R.map pt)) (.inr rfl)
  have ha' : a ≤ B.length := by omega
  have tlb : (B.take a).length = a := by rw [List.length_take]; omega
  have c15b := c_15b (n + 3) q w m1 R r0 h0 hr0 (B.take a) (fun l hl => hB l (List.mem_of_mem_take hl)) one ((B.drop a).map pt) (.inl h1)
  rw [tlb] at c15b
  have e4 := c_36p (n + 7) m1 _ _ _ (a : Int) (c_10y n q m1 (.tup (R.map pt)) _ _ (eBP (a : Nat)) c11t c15b)
  have rl : ∀ u ∈ R ++ R.take 1, RowP q w u := fun u hu => by
    rcases List.mem_append.mp hu with h | h
    · exact hR u h
    · exact hR u (List.mem_of_mem_take h)
  have rb : ∀ u ∈ B, RowP q w u ∧ u ∉ R ++ R.take 1 := fun u hu => ⟨(hB u hu).1, fun z => by
    rcases List.mem_append.mp z with h | h
    · exact (hB u hu).2 h
    · exact (hB u hu).2 (List.mem_of_mem_take h)⟩
  have l1 : (R ++ R.take 1).length ≤ 20 := by
    rw [List.length_append, List.length_take]
    omega
  have rz : (R ++ R.take 1)[0]? = some r0 := by
    rw [List.getElem?_append_left (List.getElem?_eq_some_iff.mp h0).1]
    exact h0
  have c10a := c_10g hF hp (n + 1) m1 w (by omega) (R ++ R.take 1) B r0 rz rl rb hl l1 (pl (R ++ R.take 1)) (pl B) (.inl rfl) (.inl rfl)
  have c10b := c_10g hF hp (n + 1) m1 w (by omega) R B r0 h0 hR hB hl (by omega) (pl R) (pl B) (.inl rfl) (.inl rfl)
  rw [show PQ q w (R ++ R.take 1) B = PQ q w R B from funext fun e => pq_twice R B e] at c10a
  have eqp := eq_pr (ansL (PQ q w R B) (w + 1)) m1
  generalize ansL (PQ q w R B) (w + 1) = A at *
  have ne1 : ∀ (i : Int) m, opC .ne (.lst [.str "place", .int i]) (.lst [.str "place", .int i]) m = .ok (.val (.bl false)) m := fun i m => by
    rw [ne_rf "place" so_place i i m]
    simp
  obtain ⟨LG, hLG⟩ : ∃ t, t = (R.take k).map pt ++ one :: (R.drop k).map pt := ⟨_, rfl⟩
  rw [← hLG] at e2 ⊢
  clear hLG c11b
  have b1 : (1 : Nat) ≤ sizeLine := szl (by decide)
  have b2 : (2 : Nat) ≤ sizeLine := szl (by decide)
  have b3 : (3 : Nat) ≤ sizeLine := szl (by decide)
  have key := forL_run (fg := [9]) (F := bodyF (callN G (n + 8)) (.nm 9) l_37_0) (m := m0) (fun _ : Unit => [some (.val (.ref 0)), some (.val (.int q)), some x2, some (.val (pl R)), some (.val (pl B)), some x5, some (.val one), some (.val (.int (k : Nat))), some (.val (.lst LG)), none, none]) (fun _ _ => ()) (fun _ d => [some (.val (.ref 0)), some (.val (.int q)), some x2, some (.val (pl R)), some (.val (pl B)), some x5, some (.val one), some (.val (.int (k : Nat))), some (.val (.lst LG)), some (.val d), none]) (fun _ _ => rfl) [.lst [], .non, .int 5] () (fun _ x hx => by
    have hx' : x = .lst [] ∨ x = .non ∨ ∃ i, x = .int i := by
      simp only [List.mem_cons, List.not_mem_nil, or_false] at hx
      rcases hx with h | h | h
      · exact .inl h
      · exact .inr (.inl h)
      · exact .inr (.inr ⟨5, h⟩)
    have e := e1 x hx'
    have nm := ne1 (-1) m0
    simp -implicitDefEqProofs [↓evS_for, ↓evE_lc, evSs, evS, evE, evEs, evP, evPs, evI, evB, evBor, evBand, evO, evOB, evAnd, bindT, wipeS, bodyF, l_37_0, e, b2, nm])
  have st := sl_to B a m1
  have sf := sl_from B a m1
  have s1 : opSl (pl R) none (some (1 : Int)) m1 = .ok (.own (.lst ((R.take 1).map pt))) m1 := sl_to R 1 m1
  obtain ⟨A1, hA1⟩ : ∃ t, t = (B.take a).map pt := ⟨_, rfl⟩
  obtain ⟨A2, hA2⟩ : ∃ t, t = (B.drop a).map pt := ⟨_, rfl⟩
  obtain ⟨A3, hA3⟩ : ∃ t, t = (R.take 1).map pt := ⟨_, rfl⟩
  have la1 : A1.length ≤ 20 := by rw [hA1, List.length_map, List.length_take]; omega
  have la2 : A2.length ≤ 20 := by rw [hA2, List.length_map, List.length_drop]; omega
  have q1 : opB .add (.lst A1) (.lst [one]) m1 = .ok (.own (.lst (A1 ++ [one]))) m1 := ladd _ _ m1 (by simp; omega)
  have q2 : opB .add (.lst (A1 ++ [one])) (.lst A2) m1 = .ok (.own (.lst (A1 ++ one :: A2))) m1 := by
    rw [ladd _ _ m1 (by simp; omega)]
    simp
  have q3 : opB .add (pl R) (.lst A3) m1 = .ok (.own (.lst ((R ++ R.take 1).map pt))) m1 := by
    rw [hA3]
    show opB .add (.lst (R.map pt)) _ m1 = _
    rw [ladd _ _ m1 (by simp [List.length_take]; omega), ← List.map_append]
  rw [← hA1] at st e4
  rw [← hA2] at sf e4
  rw [← hA3] at s1
  obtain ⟨R2, hR2⟩ : ∃ t, t = (R ++ R.take 1).map pt := ⟨_, rfl⟩
  have c10a' : callN G (n + 8) 10 [.int q, .lst R2, pl B] m1 = .ok (.val (.tup (A.map prD))) m1 := by rw [hR2]; exact c10a
  rw [← hR2] at q3
  have fR : ∀ m, opF .tuple [pl R] m = .ok (.val (.tup (R.map pt))) m := fun m => rfl
  have lB : ∀ m, opF .len [pl B] m = .ok (.val (.int (B.length : Nat))) m := fun m => by
    rw [f_len_lst, List.length_map]
  generalize hTR : D.tup (R.map pt) = TR at *
  have sR : ∀ m, seeD m (pl R) = pl R := fun m => rfl
  have sB : ∀ m, seeD m (pl B) = pl B := fun m => rfl
  have sA : ∀ m, seeD m (.tup (A.map prD)) = .tup (A.map prD) := fun m => rfl
  clear hA1 hA2 hA3 hR2 hTR c10a c11 c11t c15b
  generalize hPR : pl R = PR at *
  generalize hPB : pl B = PB at *
  generalize D.tup (A.map prD) = TA at *
  clear hPR hPB
  have nk := ne1 (k : Int) m0
  have n1 := ne1 (-1) m0
  have na := ne1 (a : Int) m1
  simp -implicitDefEqProofs [↓evS_for, ↓evE_lc, evSs, evS, evE, evEs, evP, evPs, evI, evB, evBor, evBand, evO, evOB, evAnd, bindT, wipeS, T37_5, T37_6, T37_7, T37_8, T37_9, T37_10, T37_11, s37_5, s37_6, s37_7, s37_8, s37_9, s37_10, b1, b3, key, e2, b2, nk, e3, n1, sB, lB, t1, sR, fR, st, sf, q1, q2, e4, na, s1, q3, c10a', c10b, sA, eqp]
end K94
end

section
set_option Elab.async false
set_option linter.all false
set_option maxRecDepth 100000
set_option maxHeartbeats 4000000
namespace K94
open PySem PySem.Spec PyProof.Rows Dp
theorem c_37r {q : Nat} [NeZero q] (hF : La.Fld q) (hp : Pr q) (n : Nat) (w : Nat) (hw : 1 ≤ w ∧ w ≤ 10) (R B : List (List Int)) (r0 : List Int) (h0 : R[0]? = some r0) (hR : ∀ u ∈ R, RowP q w u) (hB : ∀ u ∈ B, RowP q w u ∧ u ∉ R) (hl : B.length ≤ 10) (hf : R.length ≤ 15) (d : List Int) (r : Mu) : ∃ (d' : List Int),
    callN G (n + 9) 37 [.ref 0, .int q, .int (w : Nat), pl R, pl B] (MM d r) = .ok (.val (.bl true)) (MM d' r) := by
  obtain ⟨one, k, d1, st, h1, h2, e1⟩ := g37_a (n + 7) q w hw R r0 h0 hR (by omega) (pl B) d r (.val (.int (w : Nat)))
  obtain ⟨d2, e2⟩ := g37_b hF hp n w hw R B r0 h0 hR hB hl hf d1 r (.val (.int (w : Nat))) (.val st) one k h2 h1
  refine ⟨d2, ?_⟩
  rw [o_37, tails37, e1, e2]
theorem t_0 (n : Nat) (d : List Int) (r : Mu) (x0 : SV) (t : Nat) (ht : t ≤ 2) (y4 : Option SV) : ∃ (d' : List Int) (c : Cell) (y4' : Option SV), ∃ s1, bodyF (callN G (n + 15)) (.nm 2) l_0_0 (.int (t : Nat)) [some x0, some (.val (.ref 0)), none, none, y4, none, none, none, none, none, none, none] (MM d r) = .nx s1 (MM d' (r ++ [c])) ∧ wipeS s1 [2, 7, 8, 9, 10, 11] = [some x0, some (.val (.ref 0)), none, none, y4', none, none, none, none, none, none, none] := by
  obtain ⟨p, w, R, B, L, d1, hpw, a1, a2, a3, a4, a5, c5⟩ := c_5r (n + 12) d r t ht
  obtain ⟨b1, b2, b3, b4, b5⟩ := hpw.b
  obtain ⟨w1, w2, w3⟩ := hpw.pow
  obtain ⟨q, hq, rfl, hF, hq1⟩ := fld_of b1
  obtain ⟨r0, h0⟩ : ∃ r0, R[0]? = some r0 := by
    cases R with
    | nil => exact absurd rfl a2
    | cons x xs => exact ⟨x, rfl⟩
  obtain ⟨v, d2, hv, t1⟩ := tkn (n + 14) 7 (by decide) d1 (r ++ [.lst (L.map pt)])
  have hks : ∀ k ∈ [v, 2 * t], k ≤ 6 := fun k hk => by
    simp only [List.mem_cons, List.not_mem_nil, or_false] at hk
    omega
  obtain ⟨a, d3, ha, t2⟩ := tkn (n + 14) ((B.length : Int) + 1) (by omega) d2 (r ++ [.lst (L.map pt)])
  obtain ⟨i, d4, hi, t3⟩ := tkn (n + 14) (R.length : Int) (by
    have := (List.getElem?_eq_some_iff.mp h0).1
    omega) d3 (r ++ [.lst (L.map pt)])
  obtain ⟨d5, c37⟩ := c_37r hF b1 (n + 6) w (by omega) R B r0 h0 a1 a4 (by omega) (by omega) d4 (r ++ [.lst (L.map pt)])
  obtain ⟨m1, hm1⟩ : ∃ z, z = MM d1 (r ++ [.lst (L.map pt)]) := ⟨_, rfl⟩
  obtain ⟨m2, hm2⟩ : ∃ z, z = MM d2 (r ++ [.lst (L.map pt)]) := ⟨_, rfl⟩
  obtain ⟨m3, hm3⟩ : ∃ z, z = MM d3 (r ++ [.lst (L.map pt)]) := ⟨_, rfl⟩
  obtain ⟨m4, hm4⟩ : ∃ z, z = MM d4 (r ++ [.lst (L.map pt)]) := ⟨_, rfl⟩
  obtain ⟨m5, hm5⟩ : ∃ z, z = MM d5 (r ++ [.lst (L.map pt)]) := ⟨_, rfl⟩
  have c34 := c_34r hF b1 (by omega) (n + 6) m2 w (by omega) (by have : (q : Int).toNat = q := by omega
                                                                 rw [this] at w1; omega) R B r0 h0 a1 a4 (by omega) (by omega) [v, 2 * t] hks
  have e7 := c_35n (n + 14) m2 _ _ _ _ 7 (c_29n (n + 6) q b1 m2 w (by omega) R B r0 h0 a1 a4 (by omega) (by omega) 7 (.inr (by decide)))
  have em := c_35n (n + 14) m2 _ _ _ _ (-1) (c_29n (n + 6) q b1 m2 w (by omega) R B r0 h0 a1 a4 (by omega) (by omega) (-1) (.inl (by decide)))
  have hiR : i < R.length := by omega
  have ixR : opIx (pl R) (.int (i : Nat)) m4 = .ok (.val (pt R[i])) m4 := ix_pl (by simp)
  have hr0 := (a1 r0 (List.mem_of_getElem? h0)).1
  have ha' : a ≤ B.length := by omega
  have tlb : (B.take a).length = a := by rw [List.length_take]; omega
  have c11 := c_11g (n + 10) q b1 w (by omega) m4 R r0 h0 (by omega) a1 (pl R) (.inl rfl)
  have c15 := c_15b (n + 10) q w m4 R r0 h0 hr0 (B.take a) (fun l hl => a4 l (List.mem_of_mem_take hl)) (pt R[i]) ((B.drop a).map pt) (.inr ⟨R[i], rfl, List.getElem_mem hiR, a1 _ (List.getElem_mem hiR)⟩)
  rw [tlb] at c15
  have ep := c_35p (n + 14) m4 _ _ _ _ (a : Int) (c_29y (n + 6) q m4 (pl R) _ (.int 1) _ (eBP (a : Nat)) c11 c15)
  have st := sl_to B a m3
  have sf := sl_from B a m4
  have st4 := sl_to B a m4
  obtain ⟨A1, hA1⟩ : ∃ z, z = (B.take a).map pt := ⟨_, rfl⟩
  obtain ⟨A2, hA2⟩ : ∃ z, z = (B.drop a).map pt := ⟨_, rfl⟩
  have la1 : A1.length ≤ 20 := by rw [hA1, List.length_map, List.length_take]; omega
  have la2 : A2.length ≤ 20 := by rw [hA2, List.length_map, List.length_drop]; omega
  obtain ⟨one, hone⟩ : ∃ z, z = pt R[i] := ⟨_, rfl⟩
  rw [← hone] at ep ixR c15
  rw [← hA1] at st ep
  rw [← hA2] at sf ep
  have q1 : opB .add (.lst A1) (.lst [one]) m4 = .ok (.own (.lst (A1 ++ [one]))) m4 := ladd _ _ m4 (by simp; omega)
  have q2 : opB .add (.lst (A1 ++ [one])) (.lst A2) m4 = .ok (.own (.lst (A1 ++ one :: A2))) m4 := by
    rw [ladd _ _ m4 (by simp; omega)]
    simp
  have nn : ∀ (i : Int) m, opC .ne (.lst [.str "number", .int i]) (.lst [.str "number", .int i]) m = .ok (.val (.bl false)) m := fun i m => by
    rw [ne_rf "number" so_number i i m]
    simp
  have np : ∀ (i : Int) m, opC .ne (.lst [.str "place", .int i]) (.lst [.str "place", .int i]) m = .ok (.val (.bl false)) m := fun i m => by
    rw [ne_rf "place" so_place i i m]
    simp
  have c34' : callN G (n + 15) 34 [.int q, .int (w : Nat), pl R, pl B, .lst [.int (v : Nat), .int ((2 * t : Nat) : Int)]] m2 = .ok (.val (.bl true)) m2 := c34
  have b := b_mulS (i := 2) (j := (t : Int)) (m := m2) (by omega) (by omega)
  have et : (2 : Int) * (t : Int) = ((2 * t : Nat) : Int) := by omega
  obtain ⟨T2, hT2⟩ : ∃ z, z = 2 * t := ⟨_, rfl⟩
  rw [← hT2] at c34' et
  rw [et] at b
  have z1 : (1 : Nat) ≤ sizeLine := szl (by decide)
  have z2 : (2 : Nat) ≤ sizeLine := szl (by decide)
  have lB : ∀ m, opF .len [pl B] m = .ok (.val (.int (B.length : Nat))) m := fun m => by
    rw [f_len_lst, List.length_map]
  have lR : ∀ m, opF .len [pl R] m = .ok (.val (.int (R.length : Nat))) m := fun m => by
    rw [f_len_lst, List.length_map]
  have sR : ∀ m, seeD m (pl R) = pl R := fun m => rfl
  have sB : ∀ m, seeD m (pl B) = pl B := fun m => rfl
  rw [← hm1] at c5 t1
  rw [← hm2] at t1 t2
  rw [← hm3] at t2 t3
  rw [← hm4] at t3 c37
  rw [← hm5] at c37
  refine ⟨d5, .lst (L.map pt), some (.val (pl R)), [some x0, some (.val (.ref 0)), some (.val (.int (t : Nat))), none, some (.val (pl R)), none, none, some (.val (.int (a : Nat))), some (.val (.lst (A1 ++ one :: A2))), some (.val (.int q)), some (.val (.int (w : Nat))), some (.val (pl B))], ?_, rfl⟩
  rw [← hm5]
  have st3 : opSl (pl B) none (some (a : Int)) m3 = .ok (.own (.lst A1)) m3 := st
  have n7 := nn 7 m2
  have nm := nn (-1) m2
  have npa := np (a : Int) m4
  clear hm1 hm2 hm3 hm4 hm5 hA1 hA2 hone hT2 c34 c11 c15 st st4
  obtain ⟨m0, hm0⟩ : ∃ z, z = MM d r := ⟨_, rfl⟩
  rw [← hm0] at c5 ⊢
  clear hm0
  generalize pl R = PR at *
  generalize pl B = PB at *
  simp -implicitDefEqProofs [↓evS_for, ↓evE_lc, evSs, evS, evE, evEs, evP, evPs, evI, evB, evBor, evBand, evO, evOB, evAnd, bindT, wipeS, bodyF, l_0_0, c5, t1, b, z2, c34', e7, n7, em, nm, sB, lB, t2, st3, sR, lR, t3, ixR, z1, q1, sf, q2, ep, npa, c37]
end K94
end

section
set_option Elab.async false
set_option linter.all false
set_option maxRecDepth 100000
set_option maxHeartbeats 4000000
namespace K94
open PySem PySem.Spec PyProof.Rows Dp
open La (Vc Sup vec zv spn inc dim iv)
open Classical in
theorem inc_one {q : Nat} [NeZero q] {v : Vc q} (h : v ≠ zv) : inc [v] = 1 := by
  show 0 + (if spn ([] : List (Vc q)) v then 0 else 1) = 1
  have h' : ¬ spn ([] : List (Vc q)) v := h
  rw [if_neg h']
open Classical in
theorem inc_two {q : Nat} [NeZero q] {v u : Vc q} (h : ¬ spn [v] u) : inc [u, v] = inc [v] + 1 := by
  show inc [v] + (if spn [v] u then 0 else 1) = _
  rw [if_neg h]
theorem ga_one {q : Nat} [NeZero q] (hq : 1 < q) (x : List Int) : vec q (ex1 x) ≠ zv := fun z => by
  have e := congrFun z x.length
  have e2 : vec q (ex1 x) x.length = 1 := by
    show iv q (ga (ex1 x) x.length) = 1
    rw [ga_ex1 rfl, if_neg (by omega), if_pos rfl, La.iv_one hq]
  rw [e2] at e
  have e3 : (1 : Fin q) = 0 := e
  have := congrArg (fun a : Fin q => (a : Nat)) e3
  simp at this
  omega
theorem e_1 (m : Mu) : callN G 15 10 [.int 3, .lst [.tup []], .lst []] m = .ok (.val (.tup [.tup [.int 0, .int 1]])) m := by
  obtain ⟨q, hq, e, hF, hq1⟩ := fld_of (p := 3) (.inr (.inl rfl))
  have eq3 : q = 3 := by omega
  subst eq3
  have c := c_10g hF (.inr (.inl rfl)) 8 m 0 (by decide) [[]] [] [] rfl (fun u hu => by rw [List.mem_singleton.mp hu]; exact ⟨rfl, fun x hx => nomatch hx⟩) (fun u hu => nomatch hu) (by decide) (by decide) (.lst [.tup []]) (.lst []) (.inl rfl) (.inl rfl)
  have hP : ∀ e, PQ 3 0 [[]] [] e = if e = 0 then 1 else 0 := fun e => by
    show fE 3 (0 + 1) e [vec 3 (ex1 [])] = _
    unfold fE
    have d1 : dim (0 + 1) (spn [vec 3 (ex1 ([] : List Int))]) = 1 := by
      rw [La.dim_inc hF (fun r hr => by rw [List.mem_singleton.mp hr]; exact La.vec_sup rfl), inc_one (ga_one hq1 [])]
    rw [d1]
    by_cases h : e = 0
    · rw [if_pos h, h]
      rfl
    · rw [if_neg h, if_neg (by omega)]
  rw [ans_congr hP] at c
  exact c
theorem e_2 (m : Mu) : callN G 15 10 [.int 2, .lst [.tup (List.replicate 20 (.int 0))], .lst [.tup (List.replicate 20 (.int 1))]] m = .ok (.val (.tup [.tup [.int 20, .int 1], .tup [.int 19, .int (-1)]])) m := by
  obtain ⟨q, hq, e, hF, hq1⟩ := fld_of (p := 2) (.inl rfl)
  have eq2 : q = 2 := by omega
  subst eq2
  have rr : ∀ x : Int, (x = 0 ∨ x = 1) → RowP 2 20 (List.replicate 20 x) := fun x hx => ⟨by simp, fun y hy => by
    rw [(List.mem_replicate.mp hy).2]
    rcases hx with rfl | rfl <;> decide⟩
  have hne : List.replicate 20 (1 : Int) ∉ [List.replicate 20 (0 : Int)] := by decide
  have c := c_10g hF (.inl rfl) 8 m 20 (by decide) [List.replicate 20 0] [List.replicate 20 1] (List.replicate 20 0) rfl (fun u hu => by rw [List.mem_singleton.mp hu]; exact rr 0 (.inl rfl)) (fun u hu => by rw [List.mem_singleton.mp hu]; exact ⟨rr 1 (.inr rfl), hne⟩) (by decide) (by decide) (.lst [.tup (List.replicate 20 (.int 0))]) (.lst [.tup (List.replicate 20 (.int 1))]) (.inl rfl) (.inl rfl)
  have hP : ∀ e, PQ 2 20 [List.replicate 20 0] [List.replicate 20 1] e = (if e = 20 then 1 else 0) - (if e = 19 then 1 else 0) := fun e => by
    show fE 2 (20 + 1) e [vec 2 (ex1 (List.replicate 20 0))] - fE 2 (20 + 1) e [vec 2 (ex1 (List.replicate 20 1)), vec 2 (ex1 (List.replicate 20 0))] = _
    unfold fE
    have d1 : dim (20 + 1) (spn [vec 2 (ex1 (List.replicate 20 (0 : Int)))]) = 1 := by
      rw [La.dim_inc hF (fun r hr => by rw [List.mem_singleton.mp hr]; exact La.vec_sup rfl), inc_one (ga_one hq1 _)]
    have d2 : dim (20 + 1) (spn [vec 2 (ex1 (List.replicate 20 (1 : Int))), vec 2 (ex1 (List.replicate 20 (0 : Int)))]) = 2 := by
      rw [La.dim_inc hF (fun r hr => by
        simp only [List.mem_cons, List.not_mem_nil, or_false] at hr
        rcases hr with rfl | rfl <;> exact La.vec_sup rfl)]
      rw [inc_two, inc_one (ga_one hq1 _)]
      rintro ⟨c, v', hv, he⟩
      have e0 := congrFun he 0
      have hv0 : v' 0 = 0 := by rw [show v' = zv from hv]; rfl
      have l0 : vec 2 (ex1 (List.replicate 20 (1 : Int))) 0 = 1 := La.iv_one hq1
      have r0 : vec 2 (ex1 (List.replicate 20 (0 : Int))) 0 = 0 := La.iv_zero
      have e1 : vec 2 (ex1 (List.replicate 20 (1 : Int))) 0 = c * vec 2 (ex1 (List.replicate 20 (0 : Int))) 0 + v' 0 := e0
      rw [l0, r0, hv0] at e1
      have e2 : (1 : Fin 2) = 0 := by rw [e1]; grind
      have := congrArg (fun a : Fin 2 => (a : Nat)) e2
      simp at this
    rw [d1, d2]
    congr 1
    · by_cases h : e = 20
      · rw [if_pos h, h]
        rfl
      · rw [if_neg h, if_neg (by omega)]
    · by_cases h : e = 19
      · rw [if_pos h, h]
        rfl
      · rw [if_neg h, if_neg (by omega)]
  rw [ans_congr hP] at c
  exact c
end K94
end

section
set_option Elab.async false
set_option linter.all false
set_option maxRecDepth 100000
set_option maxHeartbeats 4000000
namespace K94
open PySem PySem.Spec PyProof.Rows Dp
theorem ne_tt (a b : List (List Int)) (m : Mu) : opC .ne (.tup (a.map pt)) (.tup (b.map pt)) m = .ok (.val (.bl (!decide (a = b)))) m := by
  refine c_of ?_
  show (eqD? _ _).map not = _
  rw [eq_tt]
  rfl
theorem mu20 (x : D) (m : Mu) : opB .mul (.tup [x]) (.int 20) m = .ok (.val (.tup (List.replicate 20 x))) m := rfl
theorem g0_a (ns : List Int) (hn : ns.length ≤ 63) : ∃ (d : List Int) (r : Mu) (y4 : Option SV),
    evSs G (callN G 15) T0_1 [some (.val (.seq (ns.map .int))), none, none, none, none, none, none, none, none, none, none, none] [] = evSs G (callN G 15) T0_4 [some (.val (.seq (ns.map .int))), some (.val (.ref 0)), none, none, y4, none, none, none, none, none, none, none] (MM d r) := by
  obtain ⟨d0, c1⟩ := c_1 14 [] ns hn
  obtain ⟨b, _, l1⟩ := forL_ex (fg := [2, 7, 8, 9, 10, 11]) (F := bodyF (callN G 15) (.nm 2) l_0_0) (fun i : Nat => D.int (i : Nat)) (fun b : List Int × Mu × Option SV => [some (.val (.seq (ns.map .int))), some (.val (.ref 0)), none, none, b.2.2, none, none, none, none, none, none, none]) (fun b => MM b.1 b.2.1) (fun xs _ => ∀ x ∈ xs, x ≤ 2)
    (fun t xs b hb => by
      obtain ⟨d', c, y4', s1, h1, h2⟩ := t_0 0 b.1 b.2.1 (.val (.seq (ns.map .int))) t (hb t (by simp)) b.2.2
      exact ⟨(d', b.2.1 ++ [c], y4'), fun y hy => hb y (by simp [hy]), s1, h1, h2⟩)
    (List.range 3) (d0, [], none) (fun x hx => by have := List.mem_range.mp hx; omega)
  obtain ⟨d, r, y4⟩ := b
  refine ⟨d, r, y4, ?_⟩
  obtain ⟨RG, hRG⟩ : ∃ t, t = (List.range 3).map fun i : Nat => D.int (i : Nat) := ⟨_, rfl⟩
  have hI : ∀ (cf : Nat → List D → Mu → Dp.R SV) (s : Sl) (m : Mu), evI G cf (.rng1 (.int 3)) s m = .ok RG m := fun cf s m => by
    rw [hRG]
    rfl
  rw [← hRG] at l1
  clear hRG
  have l1' : forL [2, 7, 8, 9, 10, 11] (bodyF (callN G 15) (.nm 2) l_0_0) RG [some (.val (.seq (ns.map .int))), some (.val (.ref 0)), none, none, none, none, none, none, none, none, none, none] [.lst (d0.map .int)] = .nx [some (.val (.seq (ns.map .int))), some (.val (.ref 0)), none, none, y4, none, none, none, none, none, none, none] (MM d r) := l1
  clear l1
  obtain ⟨m1, hm1⟩ : ∃ z, z = MM d r := ⟨_, rfl⟩
  rw [← hm1] at l1' ⊢
  clear hm1
  have z0 : (0 : Nat) ≤ sizeLine := szl (by decide)
  have z1 : (1 : Nat) ≤ sizeLine := szl (by decide)
  have z2 : (2 : Nat) ≤ sizeLine := szl (by decide)
  have e1 := e_1 m1
  have e2 := e_2 m1
  have n1 : opC .ne (.tup [.tup [.int 0, .int 1]]) (.tup [.tup [.int 0, .int 1]]) m1 = .ok (.val (.bl false)) m1 := by
    have := ne_tt [[0, 1]] [[0, 1]] m1
    rw [decide_eq_true rfl] at this
    exact this
  have n2 : opC .ne (.tup [.tup [.int 20, .int 1], .tup [.int 19, .int (-1)]]) (.tup [.tup [.int 20, .int 1], .tup [.int 19, .int (-1)]]) m1 = .ok (.val (.bl false)) m1 := by
    have := ne_tt [[20, 1], [19, -1]] [[20, 1], [19, -1]] m1
    rw [decide_eq_true rfl] at this
    exact this
  have u0 := mu20 (.int 0) m1
  have u1 := mu20 (.int 1) m1
  generalize List.replicate 20 (D.int 0) = R0 at *
  generalize List.replicate 20 (D.int 1) = R1 at *
  simp -implicitDefEqProofs [↓evS_for, ↓evE_lc, evSs, evS, evE, evEs, evP, evPs, evI, evB, evBor, evBand, evO, evOB, evAnd, bindT, wipeS, ↓hI, T0_1, T0_2, T0_3, s0_1, s0_2, s0_3, c1, l1', z0, z1, z2, e1, n1, u0, u1, e2, n2]
end K94
end

section
set_option Elab.async false
set_option linter.all false
set_option maxRecDepth 100000
set_option maxHeartbeats 4000000
namespace K94
open PySem PySem.Spec PyProof.Rows Dp
theorem ap24 : (apI 2 4).length = 16 := by rw [ap_len 2 (by decide)]; rfl
/-- one right point drawn, the others turned -/
theorem g0_b (d : List Int) (r : Mu) (x0 : SV) (y4 : Option SV) : ∃ (x : List Int) (E : List (List Int)) (s d' : List Int) (k : Nat) (r' : Mu), RowP 2 4 x ∧ (∀ u ∈ E, RowP 2 4 u ∧ u ∉ [x]) ∧ E.length = 15 ∧
    evSs G (callN G 15) T0_4 [some x0, some (.val (.ref 0)), none, none, y4, none, none, none, none, none, none, none] (MM d r) = evSs G (callN G 15) T0_8 [some x0, some (.val (.ref 0)), none, some (.val (.ref (r.length + 1))), some (.val (pl [x])), some (.val (.int (k : Nat))), some (.val (pl E)), none, none, none, none, none] (MM d' r') := by
  have c4 : callN G 15 4 [.int 2, .int 4] (MM d r) = .ok (.own (.lst ((apI 2 4).map pt))) (MM d r) := c_4r 14 2 (by decide) (MM d r) 4 (by decide) (by decide)
  obtain ⟨v, d1, hv, t1⟩ := tkn 14 16 (by decide) d (r ++ [.lst ((apI 2 4).map pt)])
  have hlen := ap24
  have hnd := ap_nd (p := 2) 4
  have hmem := fun x (hx : x ∈ apI 2 4) => mem_ap.mp hx
  generalize apI 2 4 = L at *
  have hvL : v < L.length := by omega
  obtain ⟨k, d2, hk, t2⟩ := tkn 14 5 (by decide) d1 (r ++ [.lst ((L.eraseIdx v).map pt)])
  have hx : L[v]? = some L[v] := by simp
  obtain ⟨n1, n2⟩ := nd_erase hnd hx
  obtain ⟨x, hxd⟩ : ∃ z, z = L[v] := ⟨_, rfl⟩
  rw [← hxd] at hx n1
  obtain ⟨L2, hL2⟩ : ∃ z, z = L.eraseIdx v := ⟨_, rfl⟩
  have l2 : L2.length = 15 := by rw [hL2, List.length_eraseIdx, if_pos hvL, hlen]
  have hs2 : ∀ u ∈ L2, u ∈ L := fun u hu => List.mem_of_mem_eraseIdx (hL2 ▸ hu)
  rw [← hL2] at n1 n2 t2
  have mE : ∀ u ∈ L2.drop k ++ L2.take k, u ∈ L2 := fun u hu => by
    rcases List.mem_append.mp hu with h | h
    · exact List.mem_of_mem_drop h
    · exact List.mem_of_mem_take h
  refine ⟨x, L2.drop k ++ L2.take k, [], d2, k, r ++ [.lst (L2.map pt)], hmem x (List.mem_of_getElem? hx), fun u hu => ⟨hmem u (hs2 u (mE u hu)), fun z => n1 (by rw [← List.mem_singleton.mp z]; exact mE u hu)⟩, by rw [List.length_append, List.length_drop, List.length_take]; omega, ?_⟩
  have g' := mm_get d1 r (.lst (L.map pt))
  have st := mm_set d1 r (.lst (L.map pt)) (.lst (L2.map pt))
  have im : isML (MM d (r ++ [.lst (L.map pt)])) (.ref (r.length + 1)) = true := by
    show (match (MM d (r ++ [.lst (L.map pt)]))[r.length + 1]? with | some (.lst _) => true | _ => false) = true
    rw [mm_get]
  have sv := mm_see d2 r (L2.map pt)
  have hq : seqIndex? (v : Int) L.length = some v := by
    unfold seqIndex?
    simp
    omega
  have gk : (L.map pt)[v]? = some (pt x) := by rw [List.getElem?_map, hx]; rfl
  have ee : (L.map pt).eraseIdx v = L2.map pt := by rw [er_pt, hL2]
  have hr := rs63_nat (n := v) (by omega)
  have hlen0 : (MM d r).length = r.length + 1 := rfl
  obtain ⟨m0, hm0⟩ : ∃ z, z = MM d r := ⟨_, rfl⟩
  obtain ⟨m1, hm1⟩ : ∃ z, z = MM d (r ++ [.lst (L.map pt)]) := ⟨_, rfl⟩
  obtain ⟨m2, hm2⟩ : ∃ z, z = MM d1 (r ++ [.lst (L.map pt)]) := ⟨_, rfl⟩
  obtain ⟨m3, hm3⟩ : ∃ z, z = MM d1 (r ++ [.lst (L2.map pt)]) := ⟨_, rfl⟩
  obtain ⟨m4, hm4⟩ : ∃ z, z = MM d2 (r ++ [.lst (L2.map pt)]) := ⟨_, rfl⟩
  have hcat : m0 ++ [.lst (L.map pt)] = m1 := by rw [hm0, hm1]; rfl
  rw [← hm0] at c4 hlen0 ⊢
  rw [← hm1] at im t1
  rw [← hm2] at t1 g' st
  rw [← hm3] at st t2
  rw [← hm4] at t2 sv ⊢
  have s1 := sl_from L2 k m4
  have s2 := sl_to L2 k m4
  have sa : opB .add (.lst ((L2.drop k).map pt)) (.lst ((L2.take k).map pt)) m4 = .ok (.own (.lst ((L2.drop k ++ L2.take k).map pt))) m4 := by
    rw [ladd _ _ m4 (by simp only [List.length_map, List.length_drop, List.length_take]; omega), ← List.map_append]
  obtain ⟨A1, hA1⟩ : ∃ z, z = (L2.drop k).map pt := ⟨_, rfl⟩
  obtain ⟨A2, hA2⟩ : ∃ z, z = (L2.take k).map pt := ⟨_, rfl⟩
  rw [← hA1] at s1 sa
  rw [← hA2] at s2 sa
  have e1 : pl (L2.drop k ++ L2.take k) = .lst ((L2.drop k ++ L2.take k).map pt) := rfl
  rw [e1]
  generalize (L2.drop k ++ L2.take k).map pt = EL at *
  have e2 : pl [x] = .lst [pt x] := rfl
  rw [e2]
  have z1 : (1 : Nat) ≤ sizeLine := szl (by decide)
  generalize pt x = X at *
  clear hm0 hm1 hm2 hm3 hm4 hA1 hA2 mE e1 e2
  have lmap : (L.map pt).length = L.length := by simp
  have pl2 : D.lst (L2.map pt) = pl L2 := rfl
  rw [pl2] at sv
  generalize L2.map pt = LL2 at *
  generalize L.map pt = LL at *
  rw [← lmap] at hq
  generalize pl L2 = P2 at *
  simp -implicitDefEqProofs [↓evS_for, ↓evE_lc, evSs, evS, evE, evEs, evP, evPs, evI, evB, evBor, evBand, evO, evOB, evAnd, bindT, wipeS, T0_4, T0_5, T0_6, T0_7, s0_4, s0_5, s0_6, s0_7, c4, hlen0, hcat, im, t1, g', hr, hq, gk, ee, st, z1, t2, sv, s1, s2, sa]
end K94
end

section
set_option Elab.async false
set_option linter.all false
set_option maxRecDepth 100000
set_option maxHeartbeats 4000000
namespace K94
open PySem PySem.Spec PyProof.Rows Dp
theorem g0_c (d : List Int) (r : Mu) (x0 x3 x5 : SV) (x : List Int) (E : List (List Int)) (hx : RowP 2 4 x) (hE : ∀ u ∈ E, RowP 2 4 u ∧ u ∉ [x]) (hl : E.length = 15) : ∃ (d' : List Int),
    evSs G (callN G 15) T0_8 [some x0, some (.val (.ref 0)), none, some x3, some (.val (pl [x])), some x5, some (.val (pl E)), none, none, none, none, none] (MM d r) = .rt (.val (.bl true)) (MM d' r) := by
  obtain ⟨v, d1, hv, t1⟩ := tkn 14 29 (by decide) d r
  refine ⟨d1, ?_⟩
  obtain ⟨m1, hm1⟩ : ∃ z, z = MM d r := ⟨_, rfl⟩
  obtain ⟨m2, hm2⟩ : ∃ z, z = MM d1 r := ⟨_, rfl⟩
  rw [← hm1, ← hm2] at t1
  rw [← hm1, ← hm2]
  have hR : ∀ u ∈ [x], RowP 2 4 u := fun u hu => by rw [List.mem_singleton.mp hu]; exact hx
  have t11 : (E.take 11).length = 11 := by rw [List.length_take]; omega
  have t10 : (E.take 10).length = 10 := by rw [List.length_take]; omega
  have hE11 : ∀ u ∈ E.take 11, RowP 2 4 u ∧ u ∉ [x] := fun u hu => hE u (List.mem_of_mem_take hu)
  have hE10 : ∀ u ∈ E.take 10, RowP 2 4 u ∧ u ∉ [x] := fun u hu => hE u (List.mem_of_mem_take hu)
  have e35 : callN G 15 35 [.int 2, pl [x], .lst ((E.take 11).map pt), .int 1] m1 = .ok (.own (.lst [.str "limit", .int 10])) m1 := c_35t 14 m1 _ _ _ _ 10 (c_29t 6 2 (.inl rfl) m1 4 (by decide) [x] (E.take 11) x rfl hR hE11 (by omega) (by omega) (by simp) 1 (by decide))
  have e36 : callN G 15 36 [.int 2, pl [x], pl E] m1 = .ok (.own (.lst [.str "limit", .int 10])) m1 := c_36t 14 m1 _ _ _ 10 (c_10t 7 2 (.inl rfl) m1 4 (by decide) [x] E x rfl hR hE (by omega) (by omega) (by simp) (pl [x]) (pl E) (.inl rfl) (.inl rfl))
  have e34a : callN G 15 34 [.int 2, .int 4, pl [x], .lst ((E.take 10).map pt), .lst [.int 2]] m2 = .ok (.val (.bl true)) m2 := by
    obtain ⟨q, hq, e, hF, hq1⟩ := fld_of (p := 2) (.inl rfl)
    have eq2 : q = 2 := by omega
    subst eq2
    exact c_34r hF (.inl rfl) (by decide) 6 m2 4 (by decide) (by decide) [x] (E.take 10) x rfl hR hE10 (by omega) (by simp) [2] (fun k hk => by rw [List.mem_singleton.mp hk]; decide)
  have e34b : callN G 15 34 [.int 3, .int 2, .lst [.tup [.int 0, .int 0]], .lst [.tup [.int 1, .int 0], .tup [.int 0, .int 1], .tup [.int 1, .int 1], .tup [.int 1, .int 2]], .lst [.int 2]] m2 = .ok (.val (.bl true)) m2 := by
    obtain ⟨q, hq, e, hF, hq1⟩ := fld_of (p := 3) (.inr (.inl rfl))
    have eq3 : q = 3 := by omega
    subst eq3
    have rw2 : ∀ a b : Int, (0 ≤ a ∧ a < 3) → (0 ≤ b ∧ b < 3) → RowP 3 2 [a, b] := fun a b ha hb => ⟨rfl, fun y hy => by
      simp only [List.mem_cons, List.not_mem_nil, or_false] at hy
      rcases hy with rfl | rfl
      · exact ha
      · exact hb⟩
    refine c_34r hF (.inr (.inl rfl)) (by decide) 6 m2 2 (by decide) (by decide) [[0, 0]] [[1, 0], [0, 1], [1, 1], [1, 2]] [0, 0] rfl (fun u hu => ?_) (fun u hu => ?_) (by decide) (by decide) [2] (fun k hk => by rw [List.mem_singleton.mp hk]; decide)
    · rw [List.mem_singleton.mp hu]
      exact rw2 0 0 (by decide) (by decide)
    · simp only [List.mem_cons, List.not_mem_nil, or_false] at hu
      rcases hu with rfl | rfl | rfl | rfl
      · exact ⟨rw2 1 0 (by decide) (by decide), by decide⟩
      · exact ⟨rw2 0 1 (by decide) (by decide), by decide⟩
      · exact ⟨rw2 1 1 (by decide) (by decide), by decide⟩
      · exact ⟨rw2 1 2 (by decide) (by decide), by decide⟩
  have nl : opC .ne (.lst [.str "limit", .int 10]) (.lst [.str "limit", .int 10]) m1 = .ok (.val (.bl false)) m1 := by
    rw [ne_rf "limit" so_limit 10 10 m1]
    simp
  have s11 : opSl (pl E) none (some (11 : Int)) m1 = .ok (.own (.lst ((E.take 11).map pt))) m1 := sl_to E 11 m1
  have s10 : opSl (pl E) none (some (10 : Int)) m2 = .ok (.own (.lst ((E.take 10).map pt))) m2 := sl_to E 10 m2
  have sE : ∀ m, seeD m (pl E) = pl E := fun m => rfl
  have z1 : (1 : Nat) ≤ sizeLine := szl (by decide)
  have z2 : (2 : Nat) ≤ sizeLine := szl (by decide)
  have z4 : (4 : Nat) ≤ sizeLine := szl (by decide)
  clear hm1 hm2 hE hE11 hE10 hR t11 t10
  generalize (E.take 11).map pt = E11 at *
  generalize (E.take 10).map pt = E10 at *
  generalize pl E = PE_ at *
  generalize pl [x] = PX at *
  by_cases h28 : (v : Int) = 28
  · simp -implicitDefEqProofs [↓evS_for, ↓evE_lc, evSs, evS, evE, evEs, evP, evPs, evI, evB, evBor, evBand, evO, evOB, evAnd, bindT, wipeS, T0_8, T0_9, T0_10, T0_11, s0_8, s0_9, s0_10, sE, s11, e35, z1, z2, z4, nl, e36, t1, h28, s10, e34a]
  · simp -implicitDefEqProofs [↓evS_for, ↓evE_lc, evSs, evS, evE, evEs, evP, evPs, evI, evB, evBor, evBand, evO, evOB, evAnd, bindT, wipeS, T0_8, T0_9, T0_10, T0_11, s0_8, s0_9, s0_10, sE, s11, e35, z1, z2, z4, nl, e36, t1, h28, e34b]
theorem law_pure (ns : List Int) (hn : ns.length ≤ 63) : ∃ m, callN G 16 0 [.seq (ns.map .int)] [] = .ok (.val (.bl true)) m := by
  obtain ⟨d, r, y4, e1⟩ := g0_a ns hn
  obtain ⟨x, E, s, d', k, r', h1, h2, h3, e2⟩ := g0_b d r (.val (.seq (ns.map .int))) y4
  obtain ⟨d2, e3⟩ := g0_c d' r' (.val (.seq (ns.map .int))) (.val (.ref (r.length + 1))) (.val (.int (k : Nat))) x E h1 h2 h3
  exact ⟨_, by rw [o_0, tails0, e1, e2, e3]; rfl⟩
end K94
end

section
set_option Elab.async false
set_option linter.all false
set_option maxRecDepth 100000
set_option maxHeartbeats 0
namespace K94
open PySem PySem.Spec PyProof.Rows L2 Dp
abbrev RO : PySem.W.OpenRow := PySem.W.OpenLaw.row PySem.Challenge.rw_onlyfilling_k89_mends_counted
abbrev fil : PySem.Str := PySem.Challenge.pw_onlyfilling_k89_mends_counted.main.file
abbrev hk : PySem.W.Hook := hookX 6 ex G dfs fil xds
def ob (s : PySem.W.SharedT) : AlX := obsXG 6 ex G dfs fil xds (HandSHeadRun.getT s)
theorem ob_eq (s : PySem.W.SharedT) : ob s = hk.obs s.abs := obsXG_eq (HandSHeadRun.getT_eq s)
def loose1 : List PySem.Str := ["_wall", "FillingError", "BadPrime", "BadNumber", "BadPoint", "TooMany", "_is_integer", "check_prime", "_whole_power", "_powered", "_is_number_row", "_need_number_rows", "_first_place", "_less_leads", "_grown", "_reduced", "Space", "_need_right", "_need_bad", "_MOST_BAD"]
def loose2 : List PySem.Str := ["_mend_terms", "_mends_at", "mend_numbers", "mends_number", "_law_draws", "_law_take", "_law_plain", "_law_prime", "_law_power", "_law_points", "_law_sum", "_law_sum_at", "_law_far", "_law_sums_on", "_law_mend_counts", "_law_right_and_bad", "_law_form_good", "_law_counted", "_law_refusal", "_law_told_refusal", "_law_wrong_points"]
theorem run (w : World) : HandSHeadRun.RunEq RO (PySem.W.view RO.prog [47]) hk ob 4000 (loose1 ++ loose2) w := by
  intro os
  kernel_rfl
end K94
end

section
set_option Elab.async false
set_option linter.all false
set_option maxRecDepth 100000
set_option maxHeartbeats 0
namespace K94
open PySem PySem.Spec PyProof.Rows L2 Dp
theorem xt_BadPrime : XT x_BadPrime := ⟨_, _, _, _, _, _, _, _, _, _, _, _, rfl, fun _ _ _ _ _ _ _ us hl => match us, hl with | [_, _], _ => rfl, fun _ _ _ _ => ⟨rfl, rfl, rfl, ⟨_, rfl⟩, rfl⟩⟩
theorem xt_BadNumber : XT x_BadNumber := ⟨_, _, _, _, _, _, _, _, _, _, _, _, rfl, fun _ _ _ _ _ _ _ us hl => match us, hl with | [_, _], _ => rfl, fun _ _ _ _ => ⟨rfl, rfl, rfl, ⟨_, rfl⟩, rfl⟩⟩
theorem xt_BadPoint : XT x_BadPoint := ⟨_, _, _, _, _, _, _, _, _, _, _, _, rfl, fun _ _ _ _ _ _ _ us hl => match us, hl with | [_, _], _ => rfl, fun _ _ _ _ => ⟨rfl, rfl, rfl, ⟨_, rfl⟩, rfl⟩⟩
theorem xt_TooMany : XT x_TooMany := ⟨_, _, _, _, _, _, _, _, _, _, _, _, rfl, fun _ _ _ _ _ _ _ us hl => match us, hl with | [_, _], _ => rfl, fun _ _ _ _ => ⟨rfl, rfl, rfl, ⟨_, rfl⟩, rfl⟩⟩
theorem xt_all : ∀ d ∈ xds, xsB d = true ∧ XT d := by
  intro d hd
  have hd : d ∈ [x_BadPrime, x_BadNumber, x_BadPoint, x_TooMany] := hd
  simp only [List.mem_cons, List.not_mem_nil, or_false] at hd
  rcases hd with rfl | rfl | rfl | rfl
  · exact ⟨by decide +kernel, xt_BadPrime⟩
  · exact ⟨by decide +kernel, xt_BadNumber⟩
  · exact ⟨by decide +kernel, xt_BadPoint⟩
  · exact ⟨by decide +kernel, xt_TooMany⟩
end K94
end

section
set_option Elab.async false
set_option linter.all false
set_option maxRecDepth 100000
set_option maxHeartbeats 0
namespace K94
open PySem PySem.Spec PyProof.Rows L2 Dp
theorem facts (law_pure : ∀ ns : List Int, ns.length ≤ 63 → ∃ m, callN G 16 0 [.seq (ns.map .int)] [] = .ok (.val (.bl true)) m) {P : Program} (hP : P = RO.prog) {w : World} {K : PySem.W.Frag} {h : Heap} {mg : Str → Option Value} {f : Addr} (X : K.In h) (N : h.Ns mainGlobals mg) (hfa : mg ("law" : Str) = some (.ref f)) (c : SaysX ex G dfs fil xds K) :
    ∃ fd : FuncData, (∀ (s : Shared) (v : Value), BindsTo s fd ⟨[v], []⟩ [("script", v)]) ∧ ∀ base : Heap, K.In base → base.Ns mainGlobals mg → FnOk P w K mg base CXA (2 * 16) f fd ["script"] (spLaw K 63) := by
  have fx := facts_fx X N c.p.facts.1
  obtain ⟨fd, F⟩ := c.p.def_ 0 (d := d_0) rfl
  have e : f = He.fAd K f_0.at_ := by
    have q := fx.glo f_0 (List.mem_of_getElem? (i := 0) rfl) rfl
    have e2 := hfa.symm.trans q
    cases e2
    rfl
  subst e
  have b := FunD.bindsA (ps := ["script"]) F fun _ _ _ _ _ _ us hl => match us, hl with | [_], _ => rfl
  have hB := m_0
  unfold defB at hB
  simp only [Bool.and_eq_true, decide_eq_true_eq] at hB
  obtain ⟨h1, h2, h3, h4⟩ := hB
  have ef : P.main.file = fil := by rw [hP]; kernel_rfl
  rw [← ef] at c
  have xx : Xx G P K mg := c.xx X N rfl xt_all (by rw [hP]; kernel_rfl)
  rw [ef] at c
  exact ⟨fd, fun s v => b s [v] rfl, fun base _ _ => law_ok (most := 63) fx xx (fd_all c.p) (n := 16) (k := 0) (f := f_0) rfl rfl law_pure (by decide) F (scope_ok h3) h4⟩
end K94
open PySem PySem.W PySem.Calls PyProof.Rows
theorem k89_holds (law_pure : ∀ ns : List Int, ns.length ≤ 63 → ∃ m, Dp.callN K94.G 16 0 [.seq (ns.map .int)] [] = .ok (.val (.bl true)) m) : PySem.Challenge.rw_onlyfilling_k89_mends_counted.Holds := by
  w_on; o_law
  refine HandSHeadRun.head_any (r := OpenLaw.row PySem.Challenge.rw_onlyfilling_k89_mends_counted) (q := view (OpenLaw.row PySem.Challenge.rw_onlyfilling_k89_mends_counted).prog [47]) (H := K94.hk) (ob := K94.ob) (M := 4000) (loose := K94.loose1 ++ K94.loose2) (d := HandSHeadRun.topDef (OpenLaw.row PySem.Challenge.rw_onlyfilling_k89_mends_counted).prog 47) (kwd := []) K94.ob_eq
    (by kernel_rfl) (fun s => by kernel_rfl) K94.run (by kernel_rfl) (by kernel_rfl) (by kernel_rfl) (by rfl) (by first | assumption | decide +kernel) (by decide +kernel) ⟨rfl, rfl, rfl, rfl, rfl, by decide +kernel⟩ ?hw ?hc
  case hw => w_witness2
  case hc =>
    refine L2.walk_ofE (l := PySem.Challenge.rw_onlyfilling_k89_mends_counted) (n := 63) (k := 2 * 16) (x := "script") (CX := Dp.CXA) rfl (by decide) (by kernel_rfl) ⟨rfl, by decide, by decide⟩ ?F Dp.cxa_no
    intro w mg fa h Y N hmg0
    obtain ⟨K, KX, c⟩ := Y
    have hmg : mg ("law" : PySem.Str) = some (.ref fa) := by
      have e : (HandSHeadRun.topDef (OpenLaw.row PySem.Challenge.rw_onlyfilling_k89_mends_counted).prog 47).name = ("law" : PySem.Str) := by kernel_rfl
      rw [← e]
      exact hmg0
    obtain ⟨fd, hb, hF⟩ := K94.facts law_pure (P := (PySem.Challenge.rw_onlyfilling_k89_mends_counted).prog) (by first | rfl | kernel_rfl) (w := w) KX N hmg c
    exact ⟨K, fd, Dp.spLaw K 63, KX, hb, fun H a ns hl _ hS => ⟨a, ns, rfl, hl, hS, fun _ => rfl⟩, hF⟩
end

section
theorem PySem.Challenge.cw_onlyfilling_k89_mends_counted_holds : PySem.Challenge.rw_onlyfilling_k89_mends_counted.Holds := by
  exact k89_holds K94.law_pure
end
