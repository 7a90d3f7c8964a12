import PyProof.Rows.All
import Wide.All
import OpenK.AllK
import Wide.FinOn
import HandS.ForMost
import HandS.ForExc
import HandS.Wide
import HandS.Conv
import HandS.SortInts
import HandS.Zip
import HandS.TupAny
import HandS.IsInst
import HandS.Style
import HandS.SetFor
import HandS.Strs
import HandS.Words
import PySem.Challenge.RW_halftables_k01_paths_and_ends
set_option Elab.async false
set_option linter.all false
set_option maxRecDepth 100000
set_option maxHeartbeats 4000000
/-! An abstract machine over the layer: values without addresses, a store of mutable things by number. -/
namespace Yk
open PySem PySem.Spec L2

/-- abstract values: frozen data (tup, lst), a mutable thing by its number, the script, anything by its value -/
inductive AV where
  | non | bl (b : Bool) | int (i : Int) | str (x : Str) | tup (xs : List AV) | lst (xs : List AV) | ptr (l : Nat) | scr (ns : List Int) | raw (v : V)
/-- abstract mutable things -/
inductive MO where
  | dead | lst (xs : List AV) | ins (C : Addr) (fs : List (Str × AV))
abbrev Mem := List MO
abbrev Sl := List (Option AV)
/-- an abstract exception: its class's number, its field -/
structure AX where
  k : Nat
  arg : Option AV
/-- what is fixed: the written part; the classes of exceptions by number, their fields' names -/
structure Sy where
  K : PySem.W.Frag
  xc : Nat → Addr
  xf : Nat → Option Str
inductive Res (α : Type) where
  | bad | ok (a : α) (M : Mem) | exc (x : AX) (M : Mem)
def Res.bind {α β : Type} : Res α → (α → Mem → Res β) → Res β
  | .bad, _ => .bad
  | .ok a M, k => k a M
  | .exc x M, _ => .exc x M
@[simp] theorem Res.bind_bad {α β : Type} {k : α → Mem → Res β} : Res.bind .bad k = .bad := rfl
@[simp] theorem Res.bind_ok {α β : Type} {k : α → Mem → Res β} {a : α} {M : Mem} : Res.bind (.ok a M) k = k a M := rfl
@[simp] theorem Res.bind_exc {α β : Type} {k : α → Mem → Res β} {x : AX} {M : Mem} : Res.bind (.exc x M) k = .exc x M := rfl
inductive SRes where
  | bad | nx (δ : Sl) (M : Mem) | rt (v : AV) (M : Mem) | bk (δ : Sl) (M : Mem) | ct (δ : Sl) (M : Mem) | exc (x : AX) (δ : Sl) (M : Mem)
def Res.then (r : Res α) (δ : Sl) (k : α → Mem → SRes) : SRes :=
  match r with
  | .bad => .bad
  | .ok a M => k a M
  | .exc x M => .exc x δ M
@[simp] theorem Res.then_bad {α : Type} {δ : Sl} {k : α → Mem → SRes} : Res.then .bad δ k = .bad := rfl
@[simp] theorem Res.then_ok {α : Type} {δ : Sl} {k : α → Mem → SRes} {a : α} {M : Mem} : Res.then (.ok a M) δ k = k a M := rfl
@[simp] theorem Res.then_exc {α : Type} {δ : Sl} {k : α → Mem → SRes} {x : AX} {M : Mem} : Res.then (.exc x M) δ k = .exc x δ M := rfl

/-- the ghost: the frozen part of the heap, the addresses of the mutable things by number -/
structure Gh where
  I : Hp
  ρ : List Addr
structure Gh.le (g g' : Gh) : Prop where
  same : Same g.I g'.I
  pre : g.ρ <+: g'.ρ
theorem Gh.le.refl (g : Gh) : g.le g := ⟨Same.refl _, List.prefix_refl _⟩
theorem Gh.le.trans {g1 g2 g3 : Gh} (a : g1.le g2) (b : g2.le g3) : g1.le g3 := ⟨a.same.trans b.same, a.pre.trans b.pre⟩
theorem Gh.le.at {g g' : Gh} (h : g.le g') {l : Nat} {a : Addr} (e : g.ρ[l]? = some a) : g'.ρ[l]? = some a := by
  obtain ⟨t, ht⟩ := h.pre
  rw [← ht, List.getElem?_append_left (List.getElem?_eq_some_iff.mp e).1]
  exact e

mutual
def Rep (K : PySem.W.Frag) (g : Gh) : AV → V → Prop
  | .non, v => v = .non
  | .bl b, v => v = .bl b
  | .int i, v => v = .int i
  | .str x, v => v = .str x
  | .tup xs, v => ∃ a vs, v = .ref a ∧ g.I a = some (.tup vs) ∧ RepL K g xs vs
  | .lst xs, v => ∃ a vs, v = .ref a ∧ g.I a = some (.lst vs) ∧ RepL K g xs vs
  | .ptr l, v => ∃ a, v = .ref a ∧ g.ρ[l]? = some a
  | .scr ns, v => ∃ a, v = .ref a ∧ SqL K g.I a (ns.map V.int)
  | .raw u, v => v = u
def RepL (K : PySem.W.Frag) (g : Gh) : List AV → List V → Prop
  | [], vs => vs = []
  | x :: xs, vs => ∃ v r, vs = v :: r ∧ Rep K g x v ∧ RepL K g xs r
end
section
variable {K : PySem.W.Frag} {g g' : Gh}
mutual
theorem Rep.mono (e : g.le g') : ∀ {x : AV} {v : V}, Rep K g x v → Rep K g' x v
  | .non, _, h => h
  | .bl _, _, h => h
  | .int _, _, h => h
  | .str _, _, h => h
  | .tup xs, _, h => by
    obtain ⟨a, vs, q1, q2, q3⟩ := h
    exact ⟨a, vs, q1, e.same _ _ q2, RepL.mono e q3⟩
  | .lst xs, _, h => by
    obtain ⟨a, vs, q1, q2, q3⟩ := h
    exact ⟨a, vs, q1, e.same _ _ q2, RepL.mono e q3⟩
  | .ptr _, _, h => by
    obtain ⟨a, q1, q2⟩ := h
    exact ⟨a, q1, e.at q2⟩
  | .scr _, _, h => by
    obtain ⟨a, q1, q2⟩ := h
    exact ⟨a, q1, e.same.seq q2⟩
  | .raw _, _, h => h
theorem RepL.mono (e : g.le g') : ∀ {xs : List AV} {vs : List V}, RepL K g xs vs → RepL K g' xs vs
  | [], _, h => h
  | x :: xs, _, h => by
    obtain ⟨v, r, q1, q2, q3⟩ := h
    exact ⟨v, r, q1, Rep.mono e q2, RepL.mono e q3⟩
end
theorem RepL.len : ∀ {xs : List AV} {vs : List V}, RepL K g xs vs → xs.length = vs.length
  | [], vs, h => by
    have : vs = [] := h
    rw [this]
    rfl
  | x :: xs, _, h => by
    obtain ⟨v, r, rfl, q2, q3⟩ := h
    show xs.length + 1 = r.length + 1
    rw [RepL.len q3]
theorem RepL.get : ∀ {xs : List AV} {vs : List V} {i : Nat} {x : AV}, RepL K g xs vs → xs[i]? = some x → ∃ v, vs[i]? = some v ∧ Rep K g x v
  | [], _, _, _, _, e => by simp at e
  | y :: xs, _, 0, x, h, e => by
    obtain ⟨v, r, rfl, q2, q3⟩ := h
    simp at e
    subst e
    exact ⟨v, rfl, q2⟩
  | y :: xs, _, i + 1, x, h, e => by
    obtain ⟨v, r, rfl, q2, q3⟩ := h
    obtain ⟨u, h1, h2⟩ := RepL.get (i := i) (x := x) q3 (by simpa using e)
    exact ⟨u, by simpa using h1, h2⟩
theorem RepL.app : ∀ {xs ys : List AV} {vs us : List V}, RepL K g xs vs → RepL K g ys us → RepL K g (xs ++ ys) (vs ++ us)
  | [], ys, vs, us, h, k => by
    have : vs = [] := h
    subst this
    exact k
  | x :: xs, ys, vs, us, h, k => by
    obtain ⟨v, r, rfl, q2, q3⟩ := h
    exact ⟨v, r ++ us, rfl, q2, RepL.app q3 k⟩
theorem RepL.one {x : AV} {v : V} (h : Rep K g x v) : RepL K g [x] [v] := ⟨v, [], rfl, h, rfl⟩
theorem RepL.set : ∀ {xs : List AV} {vs : List V} {i : Nat} {x : AV} {v : V}, RepL K g xs vs → Rep K g x v → RepL K g (xs.set i x) (vs.set i v)
  | [], vs, _, _, _, h, _ => by
    have : vs = [] := h
    subst this
    exact h
  | y :: xs, _, 0, x, v, h, k => by
    obtain ⟨u, r, rfl, q2, q3⟩ := h
    exact ⟨v, r, rfl, k, q3⟩
  | y :: xs, _, i + 1, x, v, h, k => by
    obtain ⟨u, r, rfl, q2, q3⟩ := h
    exact ⟨u, r.set i v, rfl, q2, RepL.set q3 k⟩
theorem RepL.drop : ∀ {xs : List AV} {vs : List V} (n : Nat), RepL K g xs vs → RepL K g (xs.drop n) (vs.drop n)
  | _, _, 0, h => h
  | [], vs, n + 1, h => by
    have : vs = [] := h
    subst this
    exact h
  | x :: xs, _, n + 1, h => by
    obtain ⟨v, r, rfl, q2, q3⟩ := h
    exact RepL.drop n q3
theorem RepL.take : ∀ {xs : List AV} {vs : List V} (n : Nat), RepL K g xs vs → RepL K g (xs.take n) (vs.take n)
  | _, _, 0, h => rfl
  | [], vs, n + 1, h => by
    have : vs = [] := h
    subst this
    exact h
  | x :: xs, _, n + 1, h => by
    obtain ⟨v, r, rfl, q2, q3⟩ := h
    exact ⟨v, r.take n, rfl, q2, RepL.take n q3⟩
theorem RepL.rev : ∀ {xs : List AV} {vs : List V}, RepL K g xs vs → RepL K g xs.reverse vs.reverse
  | [], vs, h => by
    have : vs = [] := h
    subst this
    exact h
  | x :: xs, _, h => by
    obtain ⟨v, r, rfl, q2, q3⟩ := h
    rw [List.reverse_cons, List.reverse_cons]
    exact (RepL.rev q3).app (.one q2)
theorem RepL.erase : ∀ {xs : List AV} {vs : List V} (n : Nat), RepL K g xs vs → RepL K g (xs.eraseIdx n) (vs.eraseIdx n)
  | [], vs, n, h => by
    have : vs = [] := h
    subst this
    cases n <;> exact h
  | x :: xs, _, 0, h => by
    obtain ⟨v, r, rfl, q2, q3⟩ := h
    exact q3
  | x :: xs, _, n + 1, h => by
    obtain ⟨v, r, rfl, q2, q3⟩ := h
    exact ⟨v, _, rfl, q2, RepL.erase n q3⟩
theorem RepL.flat {xs : List AV} {vs : List V} (h : RepL K g xs vs) : ∀ n : Nat, RepL K g (List.replicate n xs).flatten (List.replicate n vs).flatten
  | 0 => rfl
  | n + 1 => by
    rw [List.replicate_succ, List.replicate_succ, List.flatten_cons, List.flatten_cons]
    exact h.app (RepL.flat h n)
theorem repL_ints : ∀ {ns : List Int} {vs : List V}, RepL K g (ns.map AV.int) vs → vs = ns.map V.int
  | [], _, h => h
  | n :: ns, _, h => by
    obtain ⟨v, r, rfl, q2, q3⟩ := h
    have e : v = .int n := q2
    rw [e, repL_ints q3]
    rfl
theorem repL_ints_of : ∀ (ns : List Int), RepL K g (ns.map AV.int) (ns.map V.int)
  | [] => rfl
  | n :: ns => ⟨_, _, rfl, rfl, repL_ints_of ns⟩
theorem repL_bls : ∀ {ns : List Bool} {vs : List V}, RepL K g (ns.map AV.bl) vs → vs = ns.map V.bl
  | [], _, h => h
  | n :: ns, _, h => by
    obtain ⟨v, r, rfl, q2, q3⟩ := h
    have e : v = .bl n := q2
    rw [e, repL_bls q3]
    rfl
end
/-- an instance's attributes -/
def RepF (K : PySem.W.Frag) (g : Gh) : List (Str × AV) → List (Str × V) → Prop
  | [], vs => vs = []
  | (f, x) :: xs, vs => ∃ v r, vs = (f, v) :: r ∧ Rep K g x v ∧ RepF K g xs r
def MOk (K : PySem.W.Frag) (g : Gh) (H : Hp) (a : Addr) : MO → Prop
  | .dead => ∃ o, H a = some o
  | .lst xs => g.I a = none ∧ ∃ vs, H a = some (.lst vs) ∧ RepL K g xs vs
  | .ins C fs => g.I a = none ∧ ∃ dx vs, H a = some (.ins C dx vs) ∧ RepF K g fs vs
theorem RepF.mono {K : PySem.W.Frag} {g g' : Gh} (e : g.le g') : ∀ {xs : List (Str × AV)} {vs : List (Str × V)}, RepF K g xs vs → RepF K g' xs vs
  | [], _, h => h
  | (f, x) :: xs, _, h => by
    obtain ⟨v, r, q1, q2, q3⟩ := h
    exact ⟨v, r, q1, q2.mono e, q3.mono e⟩
theorem MOk.any {K : PySem.W.Frag} {g : Gh} {H : Hp} {a : Addr} {c : MO} (h : MOk K g H a c) : ∃ o, H a = some o := by
  cases c with
  | dead => exact h
  | lst xs => obtain ⟨_, vs, e, _⟩ := h; exact ⟨_, e⟩
  | ins C fs => obtain ⟨_, dx, vs, e, _⟩ := h; exact ⟨_, e⟩
/-- the abstract store stands in the heap; F: other things that stand and that nobody touches -/
structure StM (K : PySem.W.Frag) (g : Gh) (F : List (Addr × HO)) (H : Hp) (M : Mem) : Prop where
  sees : Same g.I H
  len : g.ρ.length = M.length
  nd : g.ρ.Nodup
  cells : ∀ (l : Nat) (c : MO) (a : Addr), M[l]? = some c → g.ρ[l]? = some a → MOk K g H a c
  frame : ∀ p ∈ F, H p.1 = some p.2 ∧ g.I p.1 = none ∧ p.1 ∉ g.ρ
structure Slots (K : PySem.W.Frag) (g : Gh) (σ : St) (δ : Sl) : Prop where
  len : σ.length = δ.length
  at' : ∀ (i : Nat) (x : AV), δ[i]? = some (some x) → ∃ v, σ[i]? = some (some v) ∧ Rep K g x v
structure StS (K : PySem.W.Frag) (g : Gh) (F : List (Addr × HO)) (σ : St) (H : Hp) (δ : Sl) (M : Mem) : Prop where
  m : StM K g F H M
  s : Slots K g σ δ
theorem nodup_ix {xs : List Addr} (h : xs.Nodup) {i j : Nat} {a : Addr} (hi : xs[i]? = some a) (hj : xs[j]? = some a) : i = j := by
  obtain ⟨h1, e1⟩ := List.getElem?_eq_some_iff.mp hi
  obtain ⟨h2, e2⟩ := List.getElem?_eq_some_iff.mp hj
  have k := List.pairwise_iff_getElem.mp h
  rcases Nat.lt_trichotomy i j with z | z | z
  · exact absurd (e1.trans e2.symm) (k i j h1 h2 z)
  · exact z
  · exact absurd (e2.trans e1.symm) (k j i h2 h1 z)
section
variable {K : PySem.W.Frag} {g g' : Gh} {F : List (Addr × HO)} {σ : St} {H H' : Hp} {δ : Sl} {M : Mem}
theorem Slots.mono (e : g.le g') (h : Slots K g σ δ) : Slots K g' σ δ := ⟨h.len, fun i x q => by
  obtain ⟨v, q1, q2⟩ := h.at' i x q
  exact ⟨v, q1, q2.mono e⟩⟩
theorem Slots.set {i : Nat} {x : AV} {v : V} (h : Slots K g σ δ) (r : Rep K g x v) : Slots K g (σ.set i (some v)) (δ.set i (some x)) := by
  refine ⟨by rw [List.length_set, List.length_set, h.len], fun j y q => ?_⟩
  by_cases hj : i = j
  · subst hj
    have hi : i < δ.length := by
      have := (List.getElem?_eq_some_iff.mp q).1
      simpa using this
    rw [List.getElem?_set_self hi] at q
    cases q
    exact ⟨v, List.getElem?_set_self (by rw [h.len]; exact hi), r⟩
  · rw [List.getElem?_set_ne hj] at q
    obtain ⟨u, q1, q2⟩ := h.at' j y q
    exact ⟨u, by rw [List.getElem?_set_ne hj]; exact q1, q2⟩
theorem Slots.unset {i : Nat} (h : Slots K g σ δ) (w : Option V) : Slots K g (σ.set i w) (δ.set i none) := by
  refine ⟨by rw [List.length_set, List.length_set, h.len], fun j y q => ?_⟩
  by_cases hj : i = j
  · subst hj
    have hi : i < δ.length := by
      have := (List.getElem?_eq_some_iff.mp q).1
      simpa using this
    rw [List.getElem?_set_self hi] at q
    cases q
  · rw [List.getElem?_set_ne hj] at q
    obtain ⟨u, q1, q2⟩ := h.at' j y q
    exact ⟨u, by rw [List.getElem?_set_ne hj]; exact q1, q2⟩
/-- every numbered address holds something -/
theorem StM.there (h : StM K g F H M) {l : Nat} {a : Addr} (e : g.ρ[l]? = some a) : ∃ o, H a = some o := by
  have hl : l < M.length := by
    have := (List.getElem?_eq_some_iff.mp e).1
    rw [h.len] at this
    exact this
  exact (h.cells l _ a (List.getElem?_eq_getElem hl) e).any
theorem StM.fresh (h : StM K g F H M) {p : Addr} (hp : H p = none) : p ∉ g.ρ := fun hm => by
  obtain ⟨l, hl⟩ := List.getElem?_of_mem hm
  obtain ⟨o, ho⟩ := h.there hl
  rw [hp] at ho
  cases ho
theorem StM.dark (h : StM K g F H M) {p : Addr} (hp : H p = none) : g.I p = none := h.sees.free hp
theorem MOk.keep {c : MO} {a : Addr} (e : g.le g') (k : ∀ o, H a = some o → H' a = some o) (hI : g.I a = none → g'.I a = none) (h : MOk K g H a c) : MOk K g' H' a c := by
  cases c with
  | dead => obtain ⟨o, q⟩ := h; exact ⟨o, k _ q⟩
  | lst xs => obtain ⟨z, vs, q, r⟩ := h; exact ⟨hI z, vs, k _ q, r.mono e⟩
  | ins C fs => obtain ⟨z, dx, vs, q, r⟩ := h; exact ⟨hI z, dx, vs, k _ q, r.mono e⟩
/-- a new frozen thing -/
def Gh.put (g : Gh) (p : Addr) (o : HO) : Gh := ⟨upd g.I p o, g.ρ⟩
theorem Gh.le_put {p : Addr} {o : HO} (h : g.I p = none) : g.le (g.put p o) := ⟨fun b u e => by
  show upd g.I p o b = some u
  rw [upd_ne (ne_of_none e h)]
  exact e, List.prefix_refl _⟩
theorem StM.put (h : StM K g F H M) {p : Addr} {o : HO} (hp : H p = none) : StM K (g.put p o) F (upd H p o) M := by
  have nI := h.dark hp
  refine ⟨fun b u e => ?_, h.len, h.nd, fun l c a hc ha => ?_, fun q hq => ?_⟩
  · by_cases hb : b = p
    · subst hb
      have e' : upd g.I b o b = some u := e
      rw [upd_same] at e' ⊢
      exact e'
    · have e' : upd g.I p o b = some u := e
      rw [upd_ne hb] at e' ⊢
      exact h.sees _ _ e'
  · have hap : a ≠ p := fun z => h.fresh hp (z ▸ List.mem_of_getElem? ha)
    refine (h.cells l c a hc ha).keep (Gh.le_put nI) (fun u q => by rw [upd_ne hap]; exact q) fun z => ?_
    show upd g.I p o a = none
    rw [upd_ne hap]
    exact z
  · obtain ⟨q1, q2, q3⟩ := h.frame q hq
    have hqp : q.1 ≠ p := ne_of_none q1 hp
    refine ⟨by rw [upd_ne hqp]; exact q1, ?_, q3⟩
    show upd g.I p o q.1 = none
    rw [upd_ne hqp]
    exact q2
/-- a new mutable thing -/
def Gh.add (g : Gh) (p : Addr) : Gh := ⟨g.I, g.ρ ++ [p]⟩
theorem Gh.le_add {p : Addr} : g.le (g.add p) := ⟨Same.refl _, List.prefix_append _ _⟩
theorem StM.add (h : StM K g F H M) {p : Addr} {o : HO} {c : MO} (hp : H p = none) (hc : MOk K (g.add p) (upd H p o) p c) : StM K (g.add p) F (upd H p o) (M ++ [c]) := by
  have nI := h.dark hp
  have nf := h.fresh hp
  refine ⟨fun b u e => ?_, ?_, ?_, fun l c' a hc' ha => ?_, fun q hq => ?_⟩
  · have e' : H b = some u := h.sees _ _ e
    rw [upd_ne (ne_of_none e' hp)]
    exact e'
  · show (g.ρ ++ [p]).length = (M ++ [c]).length
    rw [List.length_append, List.length_append, h.len]
    rfl
  · show (g.ρ ++ [p]).Nodup
    rw [List.nodup_append]
    refine ⟨h.nd, by simp, fun x hx y hy => ?_⟩
    have : y = p := by simpa using hy
    subst this
    exact fun z => nf (z ▸ hx)
  · have ha' : (g.ρ ++ [p])[l]? = some a := ha
    by_cases hl : l < M.length
    · rw [List.getElem?_append_left hl] at hc'
      rw [List.getElem?_append_left (by rw [h.len]; exact hl)] at ha'
      have hap : a ≠ p := fun z => nf (z ▸ List.mem_of_getElem? ha')
      exact (h.cells l c' a hc' ha').keep Gh.le_add (fun u q => by rw [upd_ne hap]; exact q) fun z => z
    · have hl2 : l = M.length := by
        have := (List.getElem?_eq_some_iff.mp hc').1
        rw [List.length_append] at this
        simp at this
        omega
      subst hl2
      rw [List.getElem?_append_right (Nat.le_refl _), Nat.sub_self] at hc'
      rw [List.getElem?_append_right (by rw [h.len]; exact Nat.le_refl _), h.len, Nat.sub_self] at ha'
      simp at hc' ha'
      subst hc' ha'
      exact hc
  · obtain ⟨q1, q2, q3⟩ := h.frame q hq
    have hqp : q.1 ≠ p := ne_of_none q1 hp
    refine ⟨by rw [upd_ne hqp]; exact q1, q2, ?_⟩
    show q.1 ∉ g.ρ ++ [p]
    intro hm
    rcases List.mem_append.mp hm with z | z
    · exact q3 z
    · exact hqp (by simpa using z)
/-- a mutable thing changes -/
theorem StM.mut (h : StM K g F H M) {l : Nat} {a : Addr} {o : HO} {c : MO} (ha : g.ρ[l]? = some a) (hI : g.I a = none) (hc : MOk K g (upd H a o) a c) : StM K g F (upd H a o) (M.set l c) := by
  have hl : l < M.length := by
    have := (List.getElem?_eq_some_iff.mp ha).1
    rw [h.len] at this
    exact this
  refine ⟨fun b u e => ?_, ?_, h.nd, fun j c' b hc' hb => ?_, fun q hq => ?_⟩
  · rw [upd_ne (ne_of_none e hI)]
    exact h.sees _ _ e
  · rw [List.length_set]
    exact h.len
  · by_cases hj : l = j
    · subst hj
      rw [List.getElem?_set_self hl] at hc'
      rw [ha] at hb
      cases hc'
      cases hb
      exact hc
    · rw [List.getElem?_set_ne hj] at hc'
      have hba : b ≠ a := fun z => by
        subst z
        exact hj (nodup_ix h.nd ha hb)
      exact (h.cells j c' b hc' hb).keep (Gh.le.refl _) (fun u q => by rw [upd_ne hba]; exact q) fun z => z
  · obtain ⟨q1, q2, q3⟩ := h.frame q hq
    have hqa : q.1 ≠ a := fun z => q3 (by rw [z]; exact List.mem_of_getElem? ha)
    exact ⟨by rw [upd_ne hqa]; exact q1, q2, q3⟩
/-- a mutable list is frozen -/
theorem StM.frz (h : StM K g F H M) {l : Nat} {a : Addr} {vs : List V} (ha : g.ρ[l]? = some a) (hI : g.I a = none) (hH : H a = some (.lst vs)) : StM K (g.put a (.lst vs)) F H (M.set l .dead) := by
  have hl : l < M.length := by
    have := (List.getElem?_eq_some_iff.mp ha).1
    rw [h.len] at this
    exact this
  refine ⟨fun b u e => ?_, ?_, h.nd, fun j c' b hc' hb => ?_, fun q hq => ?_⟩
  · by_cases hb : b = a
    · subst hb
      have e' : upd g.I b (.lst vs) b = some u := e
      rw [upd_same] at e'
      rw [hH]
      exact e'
    · have e' : upd g.I a (.lst vs) b = some u := e
      rw [upd_ne hb] at e'
      exact h.sees _ _ e'
  · rw [List.length_set]
    exact h.len
  · by_cases hj : l = j
    · subst hj
      rw [List.getElem?_set_self hl] at hc'
      have hb' : g.ρ[l]? = some b := hb
      rw [ha] at hb'
      cases hc'
      cases hb'
      exact ⟨_, hH⟩
    · rw [List.getElem?_set_ne hj] at hc'
      have hb' : g.ρ[j]? = some b := hb
      have hba : b ≠ a := fun z => by
        subst z
        exact hj (nodup_ix h.nd ha hb')
      refine (h.cells j c' b hc' hb').keep (Gh.le_put hI) (fun u q => q) fun z => ?_
      show upd g.I a (.lst vs) b = none
      rw [upd_ne hba]
      exact z
  · obtain ⟨q1, q2, q3⟩ := h.frame q hq
    have hqa : q.1 ≠ a := fun z => q3 (by rw [z]; exact List.mem_of_getElem? ha)
    refine ⟨q1, ?_, q3⟩
    show upd g.I a (.lst vs) q.1 = none
    rw [upd_ne hqa]
    exact q2
end
end Yk
/-! The judgements and the expressions. -/
namespace Yk
open PySem PySem.Spec L2
abbrev Sg := L2.St
abbrev Fm := List (Addr × HO)
/-- an exception as the layer bears it -/
def ExR (S : Sy) (g : Gh) (F : Fm) (H : Hp) (x : AX) (cls : Value) (d : Option Addr) : Prop :=
  cls = .ref (S.xc x.k) ∧ match x.arg with
    | none => d = none
    | some r => ∃ dd f v, d = some dd ∧ S.xf x.k = some f ∧ H dd = some (.xd [(f, v)]) ∧ Rep S.K g r v ∧ g.I dd = none ∧ dd ∉ g.ρ
section
variable (S : Sy) (W : WX) (F : Fm) (σ : Sg) (δ : Sl) (g : Gh)
def PoX (x : AX) (M : Mem) : Prop := ∀ g' cls d H', g.le g' → StS S.K g' F σ H' δ M → ExR S g' F H' x cls d → W cls d σ H'
def PoE (r : Res AV) (Q : VK) : Prop := match r with
  | .bad => False
  | .ok r M => ∀ g' v H', g.le g' → StS S.K g' F σ H' δ M → Rep S.K g' r v → Q v H'
  | .exc x M => PoX S W F σ δ g x M
def PoT (r : Res Bool) (Q : Bool → Hp → Prop) : Prop := match r with
  | .bad => False
  | .ok b M => ∀ g' H', g.le g' → StS S.K g' F σ H' δ M → Q b H'
  | .exc x M => PoX S W F σ δ g x M
def PoA (r : Res (List AV)) (Q : List V → Hp → Prop) : Prop := match r with
  | .bad => False
  | .ok rs M => ∀ g' vs H', g.le g' → StS S.K g' F σ H' δ M → RepL S.K g' rs vs → Q vs H'
  | .exc x M => PoX S W F σ δ g x M
end
section
variable {S : Sy} {W : WX} {F : Fm} {σ : Sg} {δ : Sl} {g g' : Gh}
theorem PoX.mono (e : g.le g') {x : AX} {M : Mem} (h : PoX S W F σ δ g x M) : PoX S W F σ δ g' x M := fun g2 c d H' e2 => h g2 c d H' (e.trans e2)
theorem PoE.mono (e : g.le g') {r : Res AV} {Q : VK} (h : PoE S W F σ δ g r Q) : PoE S W F σ δ g' r Q := by
  cases r with
  | bad => exact h
  | ok r M => exact fun g2 v H' e2 => h g2 v H' (e.trans e2)
  | exc x M => exact PoX.mono e h
theorem PoT.mono (e : g.le g') {r : Res Bool} {Q : Bool → Hp → Prop} (h : PoT S W F σ δ g r Q) : PoT S W F σ δ g' r Q := by
  cases r with
  | bad => exact h
  | ok r M => exact fun g2 H' e2 => h g2 H' (e.trans e2)
  | exc x M => exact PoX.mono e h
theorem PoA.mono (e : g.le g') {r : Res (List AV)} {Q : List V → Hp → Prop} (h : PoA S W F σ δ g r Q) : PoA S W F σ δ g' r Q := by
  cases r with
  | bad => exact h
  | ok r M => exact fun g2 v H' e2 => h g2 v H' (e.trans e2)
  | exc x M => exact PoX.mono e h
end
abbrev AE := Sl → Mem → Res AV
abbrev AT := Sl → Mem → Res Bool
abbrev AA := Sl → Mem → Res (List AV)
def tE (S : Sy) (W : WX) (a : AE) : TE := fun σ H Q => ∃ g F δ M, StS S.K g F σ H δ M ∧ PoE S W F σ δ g (a δ M) Q
def tT (S : Sy) (W : WX) (a : AT) : TT := fun σ H Q => ∃ g F δ M, StS S.K g F σ H δ M ∧ PoT S W F σ δ g (a δ M) Q
def tA (S : Sy) (W : WX) (a : AA) : TA := fun σ H Q => ∃ g F δ M, StS S.K g F σ H δ M ∧ PoA S W F σ δ g (a δ M) Q
section
variable {S : Sy} {W : WX} {F : Fm} {σ : Sg} {δ : Sl} {g : Gh} {H : Hp} {M : Mem}
/-- from what an expression gives to what comes behind -/
theorem bindE {r : Res AV} {β : Type} {k : AV → Mem → Res β} {P : Gh → Res β → Prop} (hP : ∀ g' (r : Res β), g.le g' → P g r → P g' r) (hb : P g .bad → False) (hx : ∀ x M, P g (.exc x M) → PoX S W F σ δ g x M)
    {Q : VK} (h : P g (r.bind k)) (hk : ∀ g' x M' v H', g.le g' → StS S.K g' F σ H' δ M' → Rep S.K g' x v → P g' (k x M') → Q v H') : PoE S W F σ δ g r Q := by
  cases r with
  | bad => exact hb h
  | ok x M' => exact fun g' v H' e st rp => hk g' x M' v H' e st rp (hP g' _ e h)
  | exc x M' => exact hx x M' h
theorem bindEE {r : Res AV} {k : AV → Mem → Res AV} {Q0 Q : VK} (h : PoE S W F σ δ g (r.bind k) Q0)
    (hk : ∀ g' x M' v H', g.le g' → StS S.K g' F σ H' δ M' → Rep S.K g' x v → PoE S W F σ δ g' (k x M') Q0 → Q v H') : PoE S W F σ δ g r Q :=
  bindE (P := fun g r => PoE S W F σ δ g r Q0) (fun _ _ e h => h.mono e) id (fun _ _ h => h) h hk
theorem bindET {r : Res AV} {k : AV → Mem → Res Bool} {Q0 : Bool → Hp → Prop} {Q : VK} (h : PoT S W F σ δ g (r.bind k) Q0)
    (hk : ∀ g' x M' v H', g.le g' → StS S.K g' F σ H' δ M' → Rep S.K g' x v → PoT S W F σ δ g' (k x M') Q0 → Q v H') : PoE S W F σ δ g r Q :=
  bindE (P := fun g r => PoT S W F σ δ g r Q0) (fun _ _ e h => h.mono e) id (fun _ _ h => h) h hk
theorem bindEA {r : Res AV} {k : AV → Mem → Res (List AV)} {Q0 : List V → Hp → Prop} {Q : VK} (h : PoA S W F σ δ g (r.bind k) Q0)
    (hk : ∀ g' x M' v H', g.le g' → StS S.K g' F σ H' δ M' → Rep S.K g' x v → PoA S W F σ δ g' (k x M') Q0 → Q v H') : PoE S W F σ δ g r Q :=
  bindE (P := fun g r => PoA S W F σ δ g r Q0) (fun _ _ e h => h.mono e) id (fun _ _ h => h) h hk
theorem bindTP {r : Res Bool} {β : Type} {k : Bool → Mem → Res β} {P : Gh → Res β → Prop} (hP : ∀ g' (r : Res β), g.le g' → P g r → P g' r) (hb : P g .bad → False) (hx : ∀ x M, P g (.exc x M) → PoX S W F σ δ g x M)
    {Q : Bool → Hp → Prop} (h : P g (r.bind k)) (hk : ∀ g' x M' H', g.le g' → StS S.K g' F σ H' δ M' → P g' (k x M') → Q x H') : PoT S W F σ δ g r Q := by
  cases r with
  | bad => exact hb h
  | ok x M' => exact fun g' H' e st => hk g' x M' H' e st (hP g' _ e h)
  | exc x M' => exact hx x M' h
theorem bindTE {r : Res Bool} {k : Bool → Mem → Res AV} {Q0 : VK} {Q : Bool → Hp → Prop} (h : PoE S W F σ δ g (r.bind k) Q0)
    (hk : ∀ g' x M' H', g.le g' → StS S.K g' F σ H' δ M' → PoE S W F σ δ g' (k x M') Q0 → Q x H') : PoT S W F σ δ g r Q :=
  bindTP (P := fun g r => PoE S W F σ δ g r Q0) (fun _ _ e h => h.mono e) id (fun _ _ h => h) h hk
theorem bindTT {r : Res Bool} {k : Bool → Mem → Res Bool} {Q0 : Bool → Hp → Prop} {Q : Bool → Hp → Prop} (h : PoT S W F σ δ g (r.bind k) Q0)
    (hk : ∀ g' x M' H', g.le g' → StS S.K g' F σ H' δ M' → PoT S W F σ δ g' (k x M') Q0 → Q x H') : PoT S W F σ δ g r Q :=
  bindTP (P := fun g r => PoT S W F σ δ g r Q0) (fun _ _ e h => h.mono e) id (fun _ _ h => h) h hk
theorem bindAP {r : Res (List AV)} {β : Type} {k : List AV → Mem → Res β} {P : Gh → Res β → Prop} (hP : ∀ g' (r : Res β), g.le g' → P g r → P g' r) (hb : P g .bad → False) (hx : ∀ x M, P g (.exc x M) → PoX S W F σ δ g x M)
    {Q : List V → Hp → Prop} (h : P g (r.bind k)) (hk : ∀ g' x M' v H', g.le g' → StS S.K g' F σ H' δ M' → RepL S.K g' x v → P g' (k x M') → Q v H') : PoA S W F σ δ g r Q := by
  cases r with
  | bad => exact hb h
  | ok x M' => exact fun g' v H' e st rp => hk g' x M' v H' e st rp (hP g' _ e h)
  | exc x M' => exact hx x M' h
theorem bindAE {r : Res (List AV)} {k : List AV → Mem → Res AV} {Q0 : VK} {Q : List V → Hp → Prop} (h : PoE S W F σ δ g (r.bind k) Q0)
    (hk : ∀ g' x M' v H', g.le g' → StS S.K g' F σ H' δ M' → RepL S.K g' x v → PoE S W F σ δ g' (k x M') Q0 → Q v H') : PoA S W F σ δ g r Q :=
  bindAP (P := fun g r => PoE S W F σ δ g r Q0) (fun _ _ e h => h.mono e) id (fun _ _ h => h) h hk
theorem bindAA {r : Res (List AV)} {k : List AV → Mem → Res (List AV)} {Q0 : List V → Hp → Prop} {Q : List V → Hp → Prop} (h : PoA S W F σ δ g (r.bind k) Q0)
    (hk : ∀ g' x M' v H', g.le g' → StS S.K g' F σ H' δ M' → RepL S.K g' x v → PoA S W F σ δ g' (k x M') Q0 → Q v H') : PoA S W F σ δ g r Q :=
  bindAP (P := fun g r => PoA S W F σ δ g r Q0) (fun _ _ e h => h.mono e) id (fun _ _ h => h) h hk
end
section
variable {X : Cx} {S : Sy} {W : WX}
theorem pe_imp {e : Expr} {t t' : TE} (h : PE X e t) (hi : ∀ σ H Q, t' σ H Q → t σ H Q) : PE X e t' := ⟨fun pins s σ H Q I q => h.run pins s σ H Q I (hi σ H Q q)⟩
theorem pt_imp {e : Expr} {t t' : TT} (h : PT X e t) (hi : ∀ σ H Q, t' σ H Q → t σ H Q) : PT X e t' := ⟨fun pins s σ H Q I q => h.run pins s σ H Q I (hi σ H Q q)⟩
theorem pw_imp {e : Expr} {t t' : TT} (h : PW X e t) (hi : ∀ σ H Q, t' σ H Q → t σ H Q) : PW X e t' := ⟨fun wh pins s σ H Q I q => h.run wh pins s σ H Q I (hi σ H Q q)⟩
theorem pa_imp {e : List Expr} {t t' : TA} (h : PA X e t) (hi : ∀ σ H Q, t' σ H Q → t σ H Q) : PA X e t' := ⟨fun pos pins s σ H Q I q => h.run pos pins s σ H Q I (hi σ H Q q)⟩
/-! ### names, constants -/
def aVar (i : Nat) : AE := fun δ M => match δ[i]? with
  | some (some x) => .ok x M
  | _ => .bad
def aC (x : AV) : AE := fun _ M => .ok x M
theorem y_var (i : Nat) {x : Str} {pos : Pos} (hN : X.N[i]? = some x := by rfl) (hv : Vis X.env.scope x := by first | exact Or.inl rfl | exact Or.inr (Or.inl rfl) | exact Or.inr (Or.inr rfl)) (hd : (x == ("__debug__" : Str)) = false := by decide)
    (hcd : (x == ("__classdict__" : Str)) = false := by decide) : PE X (.Name x pos) (tE S W (aVar i)) := by
  refine pe_imp (pe_var hN hv hd hcd) fun σ H Q ⟨g, F, δ, M, st, p⟩ => ?_
  unfold aVar at p
  cases e : δ[i]? with
  | none => rw [e] at p; exact p.elim
  | some o =>
    cases o with
    | none => rw [e] at p; exact p.elim
    | some z =>
      rw [e] at p
      obtain ⟨v, h1, h2⟩ := st.s.at' i z e
      exact ⟨v, h1, p g v H (.refl g) st h2⟩
/-- values that need no heap -/
def litV : AV → Option V
  | .non => some .non
  | .bl b => some (.bl b)
  | .int i => some (.int i)
  | .str x => some (.str x)
  | .raw v => some v
  | _ => none
theorem rep_lit {K : PySem.W.Frag} {g : Gh} : ∀ {x : AV} {v : V}, litV x = some v → Rep K g x v := by
  intro x v h
  cases x <;> first | (cases h; rfl) | cases h
theorem tE_c {x : AV} {v : V} (h : litV x = some v) : ∀ σ H Q, tE S W (aC x) σ H Q → tC v σ H Q := fun σ H Q ⟨g, F, δ, M, st, p⟩ => p g v H (.refl g) st (rep_lit h)
theorem y_int {i : Int} {j pos} : PE X (.Constant (.int i) j pos) (tE S W (aC (.int i))) := pe_imp pe_int (tE_c rfl)
theorem y_bl {b : Bool} {j pos} : PE X (.Constant (.bool b) j pos) (tE S W (aC (.bl b))) := pe_imp pe_bl (tE_c rfl)
theorem y_non {j pos} : PE X (.Constant .none j pos) (tE S W (aC .non)) := pe_imp pe_non (tE_c rfl)
theorem y_str {x : Str} {j pos} : PE X (.Constant (.str x) j pos) (tE S W (aC (.str x))) := pe_imp pe_str (tE_c rfl)
theorem y_glob {x : Str} {a : AV} {v : V} {u : Value} {pos : Pos} (hl : litV a = some v) (hm : X.mg x = some u) (r : RelV v u) (hg : Gl X x := by rfl) (hd : (x == ("__debug__" : Str)) = false := by decide) : PE X (.Name x pos) (tE S W (aC a)) :=
  pe_imp (pe_glob hg hm r hd) (tE_c hl)
theorem y_blt {x : Str} {n : String} {pos : Pos} (hm : X.mg x = none) (hv : bootBuiltins x = some (.type n)) (hg : Gl X x := by rfl) (hn : x ≠ "__name__" := by decide) (hd : (x == ("__debug__" : Str)) = false := by decide) : PE X (.Name x pos) (tE S W (aC (.raw (.ty n)))) :=
  pe_imp (pe_bltn (v := .ty n) hg hm hv rfl hn hd) (tE_c rfl)

/-! ### operators -/
/-- what an operation on values asks, by what it does to abstract values -/
def OpS (S : Sy) (r : R2) (f : AV → AV → Mem → Res AV) : Prop := ∀ (W : WX) (g : Gh) (F : Fm) (σ : Sg) (H : Hp) (δ : Sl) (M : Mem) (x y : AV) (v u : V) (Q : VK), StS S.K g F σ H δ M → Rep S.K g x v → Rep S.K g y u → PoE S W F σ δ g (f x y M) Q → r v u H Q
def UnS (S : Sy) (r : V → Hp → VK → Prop) (f : AV → Mem → Res AV) : Prop := ∀ (W : WX) (g : Gh) (F : Fm) (σ : Sg) (H : Hp) (δ : Sl) (M : Mem) (x : AV) (v : V) (Q : VK), StS S.K g F σ H δ M → Rep S.K g x v → PoE S W F σ δ g (f x M) Q → r v H Q
def CaS (S : Sy) (r : List V → Hp → VK → Prop) (f : List AV → Mem → Res AV) : Prop := ∀ (W : WX) (g : Gh) (F : Fm) (σ : Sg) (H : Hp) (δ : Sl) (M : Mem) (xs : List AV) (vs : List V) (Q : VK), StS S.K g F σ H δ M → RepL S.K g xs vs → PoE S W F σ δ g (f xs M) Q → r vs H Q
def MtS (S : Sy) (r : V → List V → Hp → VK → Prop) (f : AV → List AV → Mem → Res AV) : Prop := ∀ (W : WX) (g : Gh) (F : Fm) (σ : Sg) (H : Hp) (δ : Sl) (M : Mem) (x : AV) (v : V) (xs : List AV) (vs : List V) (Q : VK), StS S.K g F σ H δ M → Rep S.K g x v → RepL S.K g xs vs → PoE S W F σ δ g (f x xs M) Q → r v vs H Q
def aBin (f : AV → AV → Mem → Res AV) (a b : AE) : AE := fun δ M => (a δ M).bind fun x M1 => (b δ M1).bind fun y M2 => f x y M2
def aUn (f : AV → Mem → Res AV) (a : AE) : AE := fun δ M => (a δ M).bind fun x M1 => f x M1
theorem tE_op {r : R2} {f : AV → AV → Mem → Res AV} {a b : AE} (hf : OpS S r f) : ∀ σ H Q, tE S W (aBin f a b) σ H Q → tOp r (tE S W a) (tE S W b) σ H Q := fun σ H Q ⟨g, F, δ, M, st, p⟩ =>
  ⟨g, F, δ, M, st, bindEE p fun g1 x M1 v H1 e1 st1 r1 p1 => ⟨g1, F, δ, M1, st1, bindEE p1 fun g2 y M2 u H2 e2 st2 r2 p2 => hf W g2 F σ H2 δ M2 x y v u Q st2 (r1.mono e2) r2 p2⟩⟩
theorem y_bin {op : Operator} {r : R2} {f : AV → AV → Mem → Res AV} {a b : Expr} {ea eb : AE} {pos : Pos} (ho : OpR X (binaryOp op) r) (hf : OpS S r f) (ha : PE X a (tE S W ea)) (hb : PE X b (tE S W eb)) : PE X (.BinOp a op b pos) (tE S W (aBin f ea eb)) :=
  pe_imp (pe_op ho ha hb) (tE_op hf)
theorem y_un {op : UnaryOp} {r : V → Hp → VK → Prop} {f : AV → Mem → Res AV} {a : Expr} {ea : AE} {pos : Pos} (ho : UnR X (unaryOp op) r) (hf : UnS S r f) (ha : PE X a (tE S W ea)) : PE X (.UnaryOp op a pos) (tE S W (aUn f ea)) :=
  pe_imp (pe_un ho ha) fun σ H Q ⟨g, F, δ, M, st, p⟩ => ⟨g, F, δ, M, st, bindEE p fun g1 x M1 v H1 e1 st1 r1 p1 => hf W g1 F σ H1 δ M1 x v Q st1 r1 p1⟩
theorem y_cmp {op : CmpOp} {r : R2} {f : AV → AV → Mem → Res AV} {a b : Expr} {ea eb : AE} {pos : Pos} (ho : OpR X (compareOp op) r) (hf : OpS S r f) (ha : PE X a (tE S W ea)) (hb : PE X b (tE S W eb)) (hm : behindInMarks op b = false) : PE X (.Compare a [op] [b] pos) (tE S W (aBin f ea eb)) :=
  pe_imp (pe_cmpR ho ha hb hm) (tE_op hf)
theorem opR_or {f : Value → Value → Sem Value} {r r' : R2} (h : OpR X f r) (h' : OpR X f r') : OpR X f (fun x y H Q => r x y H Q ∨ r' x y H Q) := fun pins s σ H x y v u Q I rx ry q => q.elim (h pins s σ H x y v u Q I rx ry) (h' pins s σ H x y v u Q I rx ry)
/-- a test from a value -/
def asBl (x : AV) (M : Mem) : Res Bool := match x with
  | .bl b => .ok b M
  | _ => .bad
def aTest (a : AE) : AT := fun δ M => (a δ M).bind asBl
theorem bl_of {x : AV} {v : V} {g : Gh} {M : Mem} {F : Fm} {σ : Sg} {δ : Sl} {H : Hp} {Q : Bool → Hp → Prop} (st : StS S.K g F σ H δ M) (r : Rep S.K g x v) (p : PoT S W F σ δ g (asBl x M) Q) : ∃ k, v = .bl k ∧ Q k H := by
  cases x <;> first | exact p.elim | skip
  rename_i b
  have e : v = .bl b := r
  exact ⟨b, e, p g H (.refl g) st⟩
theorem y_tcmp {op : CmpOp} {r : R2} {f : AV → AV → Mem → Res AV} {a b : Expr} {ea eb : AE} {pos : Pos} (ho : OpR X (compareOp op) r) (hf : OpS S r f) (ha : PE X a (tE S W ea)) (hb : PE X b (tE S W eb)) (hm : behindInMarks op b = false) : PT X (.Compare a [op] [b] pos) (tT S W (aTest (aBin f ea eb))) := by
  refine pt_imp (pt_cmpR ho ha hb hm) fun σ H Q ⟨g, F, δ, M, st, p⟩ => tE_op hf σ H _ ⟨g, F, δ, M, st, ?_⟩
  exact bindET p fun g1 x M1 v H1 e1 st1 r1 p1 => bl_of st1 r1 p1
/-- any expression that gives a bool, as a test -/
theorem y_test {e : Expr} {a : AE} (h : PE X e (tE S W a)) (he : ∀ whole, isTrue e X.env whole = (do let v ← whole; standAt e.pos; holding [v] (truthy v)) := by intro _; rfl) : PT X e (tT S W (aTest a)) := by
  refine pt_imp (pt_val h he) fun σ H Q ⟨g, F, δ, M, st, p⟩ => ⟨g, F, δ, M, st, ?_⟩
  exact bindET p fun g1 x M1 v H1 e1 st1 r1 p1 => bl_of st1 r1 p1
/-! ### and, or, not, if -/
def aAnd (a b : AT) : AT := fun δ M => (a δ M).bind fun c M1 => if c = true then b δ M1 else .ok false M1
def aOr (a b : AT) : AT := fun δ M => (a δ M).bind fun c M1 => if c = true then .ok true M1 else b δ M1
def aNot (a : AT) : AT := fun δ M => (a δ M).bind fun c M1 => .ok (!c) M1
theorem yw_and1 {a : Expr} {ta : AT} {pos : Pos} (h : PT X a (tT S W ta)) : PW X (.BoolOp .And [a] pos) (tT S W ta) := pw_and1 h
theorem yw_or1 {a : Expr} {ta : AT} {pos : Pos} (h : PT X a (tT S W ta)) : PW X (.BoolOp .Or [a] pos) (tT S W ta) := pw_or1 h
theorem yw_and {a b : Expr} {rest : List Expr} {ta tb : AT} {pos : Pos} (ha : PT X a (tT S W ta)) (hb : PW X (.BoolOp .And (b :: rest) pos) (tT S W tb)) : PW X (.BoolOp .And (a :: b :: rest) pos) (tT S W (aAnd ta tb)) := by
  refine pw_imp (pw_and ha hb) fun σ H Q ⟨g, F, δ, M, st, p⟩ => ⟨g, F, δ, M, st, ?_⟩
  refine bindTT p fun g1 x M1 H1 e1 st1 p1 => ?_
  cases x with
  | true => exact ⟨g1, F, δ, M1, st1, p1⟩
  | false => exact p1 g1 H1 (.refl g1) st1
theorem yw_or {a b : Expr} {rest : List Expr} {ta tb : AT} {pos : Pos} (ha : PT X a (tT S W ta)) (hb : PW X (.BoolOp .Or (b :: rest) pos) (tT S W tb)) : PW X (.BoolOp .Or (a :: b :: rest) pos) (tT S W (aOr ta tb)) := by
  refine pw_imp (pw_or ha hb) fun σ H Q ⟨g, F, δ, M, st, p⟩ => ⟨g, F, δ, M, st, ?_⟩
  refine bindTT p fun g1 x M1 H1 e1 st1 p1 => ?_
  cases x with
  | true => exact p1 g1 H1 (.refl g1) st1
  | false => exact ⟨g1, F, δ, M1, st1, p1⟩
theorem y_not {a : Expr} {ta : AT} {pos : Pos} (ha : PT X a (tT S W ta)) : PT X (.UnaryOp .Not a pos) (tT S W (aNot ta)) := by
  refine pt_imp (pt_not ha) fun σ H Q ⟨g, F, δ, M, st, p⟩ => ⟨g, F, δ, M, st, ?_⟩
  exact bindTT p fun g1 x M1 H1 e1 st1 p1 => p1 g1 H1 (.refl g1) st1
/-- as values -/
def aVal (a : AT) : AE := fun δ M => (a δ M).bind fun c M1 => .ok (.bl c) M1
def aAndV (a b : AE) : AE := fun δ M => (a δ M).bind fun x M1 => match x with
  | .bl true => b δ M1
  | .bl false => .ok (.bl false) M1
  | _ => .bad
def aOrV (a b : AE) : AE := fun δ M => (a δ M).bind fun x M1 => match x with
  | .bl true => .ok (.bl true) M1
  | .bl false => b δ M1
  | _ => .bad
def aNotV (a : AE) : AE := fun δ M => (a δ M).bind fun x M1 => match x with
  | .bl b => .ok (.bl (!b)) M1
  | _ => .bad
theorem y_and {a b : Expr} {rest : List Expr} {ea eb : AE} {pos : Pos} (ha : PE X a (tE S W ea)) (hb : PE X (.BoolOp .And (b :: rest) pos) (tE S W eb)) : PE X (.BoolOp .And (a :: b :: rest) pos) (tE S W (aAndV ea eb)) := by
  refine pe_imp (pe_and ha hb) fun σ H Q ⟨g, F, δ, M, st, p⟩ => ⟨g, F, δ, M, st, ?_⟩
  refine bindEE p fun g1 x M1 v H1 e1 st1 r1 p1 => ?_
  cases x <;> first | exact p1.elim | skip
  rename_i c
  cases c with
  | true => exact ⟨true, r1, g1, F, δ, M1, st1, p1⟩
  | false => exact ⟨false, r1, p1 g1 _ H1 (.refl g1) st1 rfl⟩
theorem y_or {a b : Expr} {rest : List Expr} {ea eb : AE} {pos : Pos} (ha : PE X a (tE S W ea)) (hb : PE X (.BoolOp .Or (b :: rest) pos) (tE S W eb)) : PE X (.BoolOp .Or (a :: b :: rest) pos) (tE S W (aOrV ea eb)) := by
  refine pe_imp (pe_or ha hb) fun σ H Q ⟨g, F, δ, M, st, p⟩ => ⟨g, F, δ, M, st, ?_⟩
  refine bindEE p fun g1 x M1 v H1 e1 st1 r1 p1 => ?_
  cases x <;> first | exact p1.elim | skip
  rename_i c
  cases c with
  | true => exact ⟨true, r1, p1 g1 _ H1 (.refl g1) st1 rfl⟩
  | false => exact ⟨false, r1, g1, F, δ, M1, st1, p1⟩
theorem y_one {op} {a : Expr} {ea : AE} {pos : Pos} (h : PE X a (tE S W ea)) : PE X (.BoolOp op [a] pos) (tE S W ea) := pe_one h
theorem y_notV {a : Expr} {ea : AE} {pos : Pos} (ha : PE X a (tE S W ea)) : PE X (.UnaryOp .Not a pos) (tE S W (aNotV ea)) := by
  refine pe_imp (pe_not ha) fun σ H Q ⟨g, F, δ, M, st, p⟩ => ⟨g, F, δ, M, st, ?_⟩
  refine bindEE p fun g1 x M1 v H1 e1 st1 r1 p1 => ?_
  cases x <;> first | exact p1.elim | skip
  exact ⟨_, r1, p1 g1 _ H1 (.refl g1) st1 rfl⟩
def aIf (c : AT) (a b : AE) : AE := fun δ M => (c δ M).bind fun k M1 => if k = true then a δ M1 else b δ M1
theorem y_if {c a b : Expr} {tc : AT} {ea eb : AE} {pos : Pos} (hc : PT X c (tT S W tc)) (ha : PE X a (tE S W ea)) (hb : PE X b (tE S W eb)) : PE X (.IfExp c a b pos) (tE S W (aIf tc ea eb)) := by
  refine pe_imp (pe_ifExp hc ha hb) fun σ H Q ⟨g, F, δ, M, st, p⟩ => ⟨g, F, δ, M, st, ?_⟩
  refine bindTE p fun g1 x M1 H1 e1 st1 p1 => ?_
  cases x with
  | true => exact ⟨g1, F, δ, M1, st1, p1⟩
  | false => exact ⟨g1, F, δ, M1, st1, p1⟩
/-! ### chains: a < b < c -/
def aChain (f f' : AV → AV → Mem → Res AV) (a b c : AE) : AE := fun δ M => (a δ M).bind fun x M1 => (b δ M1).bind fun y M2 => (f x y M2).bind fun z M3 => match z with
  | .bl true => (c δ M3).bind fun w M4 => f' y w M4
  | .bl false => .ok (.bl false) M3
  | _ => .bad
theorem tE_chain {r r' : R2} {f f' : AV → AV → Mem → Res AV} {ea eb ec : AE} (hf : OpS S r f) (hf' : OpS S r' f') : ∀ σ H Q, tE S W (aChain f f' ea eb ec) σ H Q → tChain r r' (tE S W ea) (tE S W eb) (tE S W ec) σ H Q := fun σ H Q ⟨g, F, δ, M, st, p⟩ => by
  refine ⟨g, F, δ, M, st, ?_⟩
  refine bindEE p fun g1 x M1 v H1 e1 st1 r1 p1 => ⟨g1, F, δ, M1, st1, ?_⟩
  refine bindEE p1 fun g2 y M2 u H2 e2 st2 r2 p2 => ?_
  refine hf W g2 F σ H2 δ M2 x y v u _ st2 (r1.mono e2) r2 ?_
  refine bindEE p2 fun g3 z M3 t H3 e3 st3 r3 p3 => ?_
  cases z <;> first | exact p3.elim | skip
  rename_i k
  refine ⟨k, r3, ?_⟩
  cases k with
  | false => exact p3 g3 _ H3 (.refl g3) st3 rfl
  | true => exact ⟨g3, F, δ, M3, st3, bindEE p3 fun g4 w M4 t4 H4 e4 st4 r4 p4 => hf' W g4 F σ H4 δ M4 y w u t4 Q st4 (r2.mono (e3.trans e4)) r4 p4⟩
theorem y_chain {op op' : CmpOp} {r r' : R2} {f f' : AV → AV → Mem → Res AV} {a b c : Expr} {ea eb ec : AE} {pos : Pos} (ho : OpR X (compareOp op) r) (ho' : OpR X (compareOp op') r') (hf : OpS S r f) (hf' : OpS S r' f')
    (ha : PE X a (tE S W ea)) (hb : PE X b (tE S W eb)) (hc : PE X c (tE S W ec)) (hm : lastMarks [op, op'] [b, c] = false := by with_unfolding_all rfl) : PE X (.Compare a [op, op'] [b, c] pos) (tE S W (aChain f f' ea eb ec)) :=
  pe_imp (pe_chain ho ho' ha hb hc hm) (tE_chain hf hf')
theorem y_tchain {op op' : CmpOp} {r r' : R2} {f f' : AV → AV → Mem → Res AV} {a b c : Expr} {ea eb ec : AE} {pos : Pos} (ho : OpR X (compareOp op) r) (ho' : OpR X (compareOp op') r') (hf : OpS S r f) (hf' : OpS S r' f')
    (ha : PE X a (tE S W ea)) (hb : PE X b (tE S W eb)) (hc : PE X c (tE S W ec)) (hm : lastMarks [op, op'] [b, c] = false := by with_unfolding_all rfl) : PT X (.Compare a [op, op'] [b, c] pos) (tT S W (aTest (aChain f f' ea eb ec))) :=
  pt_imp (pt_chain ho ho' ha hb hc hm) fun σ H Q ⟨g, F, δ, M, st, p⟩ => tE_chain hf hf' σ H _ ⟨g, F, δ, M, st, bindET p fun g1 x M1 v H1 e1 st1 r1 p1 => bl_of st1 r1 p1⟩
/-! ### arguments, displays -/
def aNil : AA := fun _ M => .ok [] M
def aCons (a : AE) (b : AA) : AA := fun δ M => (a δ M).bind fun x M1 => (b δ M1).bind fun xs M2 => .ok (x :: xs) M2
theorem ya_nil : PA X [] (tA S W aNil) := pa_imp pa_nil fun σ H Q ⟨g, F, δ, M, st, p⟩ => p g [] H (.refl g) st rfl
theorem ya_cons {e : Expr} {es : List Expr} {a : AE} {b : AA} (ha : PE X e (tE S W a)) (hb : PA X es (tA S W b)) (hs : starEach (e :: es) X.env = (false, eval e X.env) :: starEach es X.env := by rfl) : PA X (e :: es) (tA S W (aCons a b)) := by
  refine pa_imp (pa_cons ha hb hs) fun σ H Q ⟨g, F, δ, M, st, p⟩ => ⟨g, F, δ, M, st, ?_⟩
  refine bindEA p fun g1 x M1 v H1 e1 st1 r1 p1 => ⟨g1, F, δ, M1, st1, ?_⟩
  exact bindAA p1 fun g2 xs M2 vs H2 e2 st2 r2 p2 => p2 g2 (v :: vs) H2 (.refl g2) st2 ⟨v, vs, rfl, r1.mono e2, r2⟩
def lim : Nat := 100000
theorem lim_le {n : Nat} (h : n ≤ lim) : n ≤ sizeLine := Nat.le_trans h (by decide)
theorem lim_lt {n : Nat} (h : n < lim) : n < sizeLine := Nat.lt_of_lt_of_le h (by decide)
/-- a tuple -/
def aTup (a : AA) : AE := fun δ M => (a δ M).bind fun xs M1 => if xs.length ≤ lim then .ok (.tup xs) M1 else .bad
/-- a list, frozen at once -/
def aLst (a : AA) : AE := fun δ M => (a δ M).bind fun xs M1 => if xs.length ≤ lim then .ok (.lst xs) M1 else .bad
/-- a list that may change -/
def aNew (a : AA) : AE := fun δ M => (a δ M).bind fun xs M1 => if xs.length ≤ lim then .ok (.ptr M1.length) (M1 ++ [.lst xs]) else .bad
theorem ifok {c : Prop} {_ : Decidable c} {α : Type} {r : Res α} {P : Res α → Prop} (hb : P .bad → False) (h : P (if c then r else .bad)) : c ∧ P r := by
  by_cases hc : c
  · rw [if_pos hc] at h
    exact ⟨hc, h⟩
  · rw [if_neg hc] at h
    exact (hb h).elim
section
variable {g : Gh} {F : Fm} {σ : Sg} {H : Hp} {δ : Sl} {M : Mem} {Q : VK}
/-- a new frozen list, tuple; a new mutable list -/
theorem new_frz {xs : List AV} {vs : List V} (st : StS S.K g F σ H δ M) (r : RepL S.K g xs vs) (p : PoE S W F σ δ g (.ok (.lst xs) M) Q) : ∀ q, H q = none → Q (.ref q) (upd H q (.lst vs)) := fun q hq =>
  have e := Gh.le_put (o := .lst vs) (st.m.dark hq)
  p _ _ _ e ⟨st.m.put hq, st.s.mono e⟩ ⟨q, vs, rfl, upd_same, r.mono e⟩
theorem new_tup {xs : List AV} {vs : List V} (st : StS S.K g F σ H δ M) (r : RepL S.K g xs vs) (p : PoE S W F σ δ g (.ok (.tup xs) M) Q) : ∀ q, H q = none → Q (.ref q) (upd H q (.tup vs)) := fun q hq =>
  have e := Gh.le_put (o := .tup vs) (st.m.dark hq)
  p _ _ _ e ⟨st.m.put hq, st.s.mono e⟩ ⟨q, vs, rfl, upd_same, r.mono e⟩
theorem new_lst {xs : List AV} {vs : List V} (st : StS S.K g F σ H δ M) (r : RepL S.K g xs vs) (p : PoE S W F σ δ g (.ok (.ptr M.length) (M ++ [.lst xs])) Q) : ∀ q, H q = none → Q (.ref q) (upd H q (.lst vs)) := fun q hq =>
  have e : g.le (g.add q) := Gh.le_add
  p _ _ _ e ⟨st.m.add hq ⟨st.m.dark hq, vs, upd_same, r.mono e⟩, st.s.mono e⟩ ⟨q, rfl, by
    show (g.ρ ++ [q])[M.length]? = some q
    rw [List.getElem?_append_right (by rw [st.m.len]; exact Nat.le_refl _), st.m.len, Nat.sub_self]
    rfl⟩
end
theorem y_tup {es : List Expr} {a : AA} {x1 pos} (h : PA X es (tA S W a)) : PE X (.Tuple es x1 pos) (tE S W (aTup a)) := by
  refine pe_imp (pe_tup h) fun σ H Q ⟨g, F, δ, M, st, p⟩ => ⟨g, F, δ, M, st, ?_⟩
  refine bindAE p fun g1 xs M1 vs H1 e1 st1 r1 p1 => ?_
  obtain ⟨hl, p2⟩ := ifok (P := fun r => PoE S W F σ δ g1 r Q) id p1
  exact ⟨by rw [← r1.len]; exact lim_le hl, new_tup st1 r1 p2⟩
theorem y_lst {es : List Expr} {a : AA} {pos} (h : PA X es (tA S W a)) : PE X (.List es pos) (tE S W (aLst a)) := by
  refine pe_imp (pe_lst h) fun σ H Q ⟨g, F, δ, M, st, p⟩ => ⟨g, F, δ, M, st, ?_⟩
  refine bindAE p fun g1 xs M1 vs H1 e1 st1 r1 p1 => ?_
  obtain ⟨hl, p2⟩ := ifok (P := fun r => PoE S W F σ δ g1 r Q) id p1
  exact ⟨by rw [← r1.len]; exact lim_le hl, new_frz st1 r1 p2⟩
theorem y_new {es : List Expr} {a : AA} {pos} (h : PA X es (tA S W a)) : PE X (.List es pos) (tE S W (aNew a)) := by
  refine pe_imp (pe_lst h) fun σ H Q ⟨g, F, δ, M, st, p⟩ => ⟨g, F, δ, M, st, ?_⟩
  refine bindAE p fun g1 xs M1 vs H1 e1 st1 r1 p1 => ?_
  obtain ⟨hl, p2⟩ := ifok (P := fun r => PoE S W F σ δ g1 r Q) id p1
  exact ⟨by rw [← r1.len]; exact lim_le hl, new_lst st1 r1 p2⟩
/-- the value of e, a mutable list, is frozen from here on -/
def aFrz (a : AE) : AE := fun δ M => (a δ M).bind fun x M1 => match x with
  | .ptr l => match M1[l]? with
    | some (.lst xs) => .ok (.lst xs) (M1.set l .dead)
    | _ => .bad
  | _ => .bad
theorem y_frz {e : Expr} {a : AE} (h : PE X e (tE S W a)) : PE X e (tE S W (aFrz a)) := by
  refine pe_imp h fun σ H Q ⟨g, F, δ, M, st, p⟩ => ⟨g, F, δ, M, st, ?_⟩
  refine bindEE p fun g1 x M1 v H1 e1 st1 r1 p1 => ?_
  cases x <;> first | exact p1.elim | skip
  rename_i l
  obtain ⟨q, rfl, hq⟩ := r1
  cases hc : M1[l]? with
  | none => simp only [hc] at p1; exact p1.elim
  | some c =>
    cases c <;> simp only [hc] at p1 <;> first | exact p1.elim | skip
    rename_i xs
    obtain ⟨hI, vs, hH, rv⟩ := st1.m.cells l _ q hc hq
    have e2 := Gh.le_put (o := .lst vs) hI
    exact p1 _ _ _ e2 ⟨st1.m.frz hq hI hH, st1.s.mono e2⟩ ⟨q, vs, rfl, upd_same, rv.mono e2⟩
/-! ### built-ins, methods, subscripts -/
def aCall (f : List AV → Mem → Res AV) (a : AA) : AE := fun δ M => (a δ M).bind f
theorem tE_ca {r : List V → Hp → VK → Prop} {f : List AV → Mem → Res AV} {a : AA} (hf : CaS S r f) : ∀ σ H Q, tE S W (aCall f a) σ H Q → tCB r (tA S W a) σ H Q := fun σ H Q ⟨g, F, δ, M, st, p⟩ =>
  ⟨g, F, δ, M, st, bindAE p fun g1 xs M1 vs H1 e1 st1 r1 p1 => hf W g1 F σ H1 δ M1 xs vs Q st1 r1 p1⟩
theorem y_blt_call {x : Str} {id : String} {r : List V → Hp → VK → Prop} {f : List AV → Mem → Res AV} {e : Expr} {es : List Expr} {a : AA} {p pos : Pos} (hc : CallR X (.builtin id) r) (hf : CaS S r f) (hm : X.mg x = none) (hv : bootBuiltins x = some (.builtin id)) (ha : PA X (e :: es) (tA S W a)) (hg : Gl X x := by rfl)
    (hn : x ≠ "__name__" := by decide) (hdb : (x == ("__debug__" : Str)) = false := by decide) (he : starEach (e :: es) X.env = (false, eval e X.env) :: starEach es X.env := by rfl) (hpl : (backTo pos (starEach es X.env)).any (·.1) = false := by rfl) :
    PE X (.Call (.Name x p) (e :: es) [] pos) (tE S W (aCall f a)) := pe_imp (pe_callB hc hg hm hv ha hn hdb he hpl) (tE_ca hf)
theorem y_ty_call {x : Str} {T : String} {r : List V → Hp → VK → Prop} {f : List AV → Mem → Res AV} {e : Expr} {es : List Expr} {a : AA} {p pos : Pos} (hc : CallR X (.type T) r) (hf : CaS S r f) (hm : X.mg x = none) (hv : bootBuiltins x = some (.type T)) (ha : PA X (e :: es) (tA S W a)) (hg : Gl X x := by rfl)
    (hn : x ≠ "__name__" := by decide) (hdb : (x == ("__debug__" : Str)) = false := by decide) (he : starEach (e :: es) X.env = (false, eval e X.env) :: starEach es X.env := by rfl) (hpl : (backTo pos (starEach es X.env)).any (·.1) = false := by rfl) :
    PE X (.Call (.Name x p) (e :: es) [] pos) (tE S W (aCall f a)) := pe_imp (pe_callTy hc hg hm hv ha hn hdb he hpl) (tE_ca hf)
theorem y_ix {r : R2} {f : AV → AV → Mem → Res AV} {a b : Expr} {ea eb : AE} {pos : Pos} (hr : IxR X r) (hf : OpS S r f) (ha : PE X a (tE S W ea)) (hb : PE X b (tE S W eb)) (hs : PlainIx b := by exact fun _ _ => rfl) : PE X (.Subscript a b pos) (tE S W (aBin f ea eb)) :=
  pe_imp (pe_ix hr ha hb hs) (tE_op hf)
end
end Yk
/-! Statements, loops, comprehensions. -/
namespace Yk
open PySem PySem.Spec L2
abbrev AS := Sl → Mem → SRes
abbrev AI := Sl → Mem → Res (List AV)
section
variable (S : Sy) (W : WX) (F : Fm) (g : Gh)
def PoS (r : SRes) (D : Ends) : Prop := match r with
  | .bad => False
  | .nx δ M => ∀ g' σ H, g.le g' → StS S.K g' F σ H δ M → D.nx σ H
  | .rt x M => ∀ g' v H, g.le g' → StM S.K g' F H M → Rep S.K g' x v → D.rt v H
  | .bk δ M => ∀ g' σ H, g.le g' → StS S.K g' F σ H δ M → D.bk σ H
  | .ct δ M => ∀ g' σ H, g.le g' → StS S.K g' F σ H δ M → D.ct σ H
  | .exc x δ M => ∀ g' cls d σ H, g.le g' → StS S.K g' F σ H δ M → ExR S g' F H x cls d → W cls d σ H
end
def tS (S : Sy) (W : WX) (a : AS) : TS := fun D σ H => ∃ g F δ M, StS S.K g F σ H δ M ∧ PoS S W F g (a δ M) D
section
variable {S : Sy} {W : WX} {F : Fm} {g g' : Gh}
theorem PoS.mono (e : g.le g') {r : SRes} {D : Ends} (h : PoS S W F g r D) : PoS S W F g' r D := by
  cases r with
  | bad => exact h
  | nx δ M => exact fun g2 σ H e2 => h g2 σ H (e.trans e2)
  | rt x M => exact fun g2 v H e2 => h g2 v H (e.trans e2)
  | bk δ M => exact fun g2 σ H e2 => h g2 σ H (e.trans e2)
  | ct δ M => exact fun g2 σ H e2 => h g2 σ H (e.trans e2)
  | exc x δ M => exact fun g2 c d σ H e2 => h g2 c d σ H (e.trans e2)
variable {σ : Sg} {δ : Sl} {H : Hp} {M : Mem} {D : Ends}
theorem thenX {x : AX} {M : Mem} (h : PoS S W F g (.exc x δ M) D) : PoX S W F σ δ g x M := fun g' c d H' e st ex => h g' c d σ H' e st ex
theorem thenE {r : Res AV} {k : AV → Mem → SRes} {Q : VK} (h : PoS S W F g (r.then δ k) D)
    (hk : ∀ g' x M' v H', g.le g' → StS S.K g' F σ H' δ M' → Rep S.K g' x v → PoS S W F g' (k x M') D → Q v H') : PoE S W F σ δ g r Q := by
  cases r with
  | bad => exact h
  | ok x M' => exact fun g' v H' e st rp => hk g' x M' v H' e st rp (PoS.mono e h)
  | exc x M' => exact thenX h
theorem thenA {r : Res (List AV)} {k : List AV → Mem → SRes} {Q : List V → Hp → Prop} (h : PoS S W F g (r.then δ k) D)
    (hk : ∀ g' x M' v H', g.le g' → StS S.K g' F σ H' δ M' → RepL S.K g' x v → PoS S W F g' (k x M') D → Q v H') : PoA S W F σ δ g r Q := by
  cases r with
  | bad => exact h
  | ok x M' => exact fun g' v H' e st rp => hk g' x M' v H' e st rp (PoS.mono e h)
  | exc x M' => exact thenX h
theorem thenT {r : Res Bool} {k : Bool → Mem → SRes} {Q : Bool → Hp → Prop} (h : PoS S W F g (r.then δ k) D)
    (hk : ∀ g' x M' H', g.le g' → StS S.K g' F σ H' δ M' → PoS S W F g' (k x M') D → Q x H') : PoT S W F σ δ g r Q := by
  cases r with
  | bad => exact h
  | ok x M' => exact fun g' H' e st => hk g' x M' H' e st (PoS.mono e h)
  | exc x M' => exact thenX h
end
section
variable {X : Cx} {S : Sy} {W : WX}
theorem ps_imp {e : Stmt} {t t' : TS} (h : PS X e t) (hi : ∀ D σ H, t' D σ H → t D σ H) : PS X e t' := ⟨fun pins s σ H D I q => h.run pins s σ H D I (hi D σ H q)⟩
theorem pss_imp {e : List Stmt} {t t' : TS} (h : PSs X e t) (hi : ∀ D σ H, t' D σ H → t D σ H) : PSs X e t' := ⟨fun pins s σ H D I q => h.run pins s σ H D I (hi D σ H q)⟩
theorem pg_imp {e : Expr} {t t' : TG} (h : PG X e t) (hi : ∀ v σ H Q, t' v σ H Q → t v σ H Q) : PG X e t' := ⟨fun pins s σ H v u Q I r q => h.run pins s σ H v u Q I r (hi v σ H Q q)⟩
theorem pgs_imp {e : List Expr} {t t' : TGs} (h : PGs X e t) (hi : ∀ v σ H Q, t' v σ H Q → t v σ H Q) : PGs X e t' := ⟨fun pins s σ H v u Q I r q => h.run pins s σ H v u Q I r (hi v σ H Q q)⟩
theorem pi_imp {tg e : Expr} {t t' : TI} (h : PI X tg e t) (hi : ∀ σ H R, t' σ H R → t σ H R) : PI X tg e t' := ⟨fun pins s σ H R I q => h.run pins s σ H R I (hi σ H R q)⟩
/-! ### blocks -/
def aSkip : AS := fun δ M => .nx δ M
def aSeq (a b : AS) : AS := fun δ M => match a δ M with
  | .nx δ1 M1 => b δ1 M1
  | r => r
theorem ys_nil : PSs X [] (tS S W aSkip) := pss_imp pss_nil fun D σ H ⟨g, F, δ, M, st, p⟩ => p g σ H (.refl g) st
theorem ys_cons {st : Stmt} {rest : List Stmt} {a b : AS} (h1 : PS X st (tS S W a)) (h2 : PSs X rest (tS S W b)) : PSs X (st :: rest) (tS S W (aSeq a b)) := by
  refine pss_imp (pss_cons h1 h2) fun D σ H ⟨g, F, δ, M, st, p⟩ => ⟨g, F, δ, M, st, ?_⟩
  unfold aSeq at p
  cases e : a δ M <;> rw [e] at p <;> first | exact p | skip
  exact fun g' σ' H' e1 st' => ⟨g', F, _, _, st', PoS.mono e1 p⟩
theorem ys_one {st : Stmt} {a : AS} (h1 : PS X st (tS S W a)) : PSs X [st] (tS S W a) := by
  refine pss_imp (pss_one h1) fun D σ H h => h
/-! ### targets -/
inductive Tg where
  | nm (i : Nat) | tp (ts : List Tg)
mutual
def Tg.put : Tg → AV → Sl → Option Sl
  | .nm i, x, δ => some (δ.set i (some x))
  | .tp ts, x, δ => match x with
    | .tup xs => Tg.puts ts xs δ
    | _ => none
def Tg.puts : List Tg → List AV → Sl → Option Sl
  | [], [], δ => some δ
  | t :: ts, x :: xs, δ => match t.put x δ with
    | some δ1 => Tg.puts ts xs δ1
    | none => none
  | [], _ :: _, _ => none
  | _ :: _, [], _ => none
end
mutual
def Tg.ids : Tg → List Nat
  | .nm i => [i]
  | .tp ts => Tg.idss ts
def Tg.idss : List Tg → List Nat
  | [] => []
  | t :: ts => t.ids ++ Tg.idss ts
end
def tG (S : Sy) (t : Tg) : TG := fun v σ H Q => ∃ g F δ M x δ', StS S.K g F σ H δ M ∧ Rep S.K g x v ∧ t.put x δ = some δ' ∧ ∀ σ', Slots S.K g σ' δ' → σ'.length = σ.length → (∀ j, j ∉ t.ids → σ'[j]? = σ[j]?) → Q σ' H
def tGs (S : Sy) (ts : List Tg) : TGs := fun vs σ H Q => ∃ g F δ M xs δ', StS S.K g F σ H δ M ∧ RepL S.K g xs vs ∧ Tg.puts ts xs δ = some δ' ∧ ∀ σ', Slots S.K g σ' δ' → σ'.length = σ.length → (∀ j, j ∉ Tg.idss ts → σ'[j]? = σ[j]?) → Q σ' H
theorem yg_nm (i : Nat) {x : Str} {pos : Pos} (hN : X.N.Nodup) (hi : X.N[i]? = some x := by rfl) (hx : Loc X.env.scope x := by first | exact Or.inl rfl | exact Or.inr rfl) (hf : X.fn x = true ∨ X.env.scope.names.lookup x = some .local := by first | exact .inl rfl | exact .inr rfl | assumption) : PG X (.Name x pos) (tG S (.nm i)) := by
  refine pg_imp (pg_name hN hi hx hf) fun v σ H Q ⟨g, F, δ, M, x, δ', st, r, e, k⟩ => ?_
  cases e
  refine k _ (st.s.set r) (by rw [List.length_set]) fun j hj => ?_
  have : i ≠ j := fun z => hj (by subst z; show i ∈ [i]; simp)
  exact List.getElem?_set_ne this
theorem ygs_nil : PGs X [] (tGs S []) := by
  refine pgs_imp pgs_nil fun v σ H Q ⟨g, F, δ, M, xs, δ', st, r, e, k⟩ => ?_
  cases xs with
  | nil =>
    have e' : some δ = some δ' := e
    cases e'
    exact ⟨r, k σ st.s rfl fun _ _ => rfl⟩
  | cons x xs => cases e
theorem ygs_cons {e : Expr} {es : List Expr} {t : Tg} {ts : List Tg} (h1 : PG X e (tG S t)) (h2 : PGs X es (tGs S ts)) (hs : (assignEach (e :: es) X.env).map (·.2) = assign e X.env :: (assignEach es X.env).map (·.2) := by rfl) : PGs X (e :: es) (tGs S (t :: ts)) := by
  refine pgs_imp (pgs_cons h1 h2 hs) fun v σ H Q ⟨g, F, δ, M, xs, δ', st, r, e, k⟩ => ?_
  cases xs with
  | nil => cases e
  | cons x xs =>
    obtain ⟨v1, vr, rfl, r1, r2⟩ := r
    have e' : (match t.put x δ with | some δ1 => Tg.puts ts xs δ1 | none => none) = some δ' := e
    cases e1 : t.put x δ with
    | none => rw [e1] at e'; cases e'
    | some δ1 =>
      rw [e1] at e'
      refine ⟨v1, vr, rfl, g, F, δ, M, x, δ1, st, r1, e1, fun σ1 s1 l1 k1 => ?_⟩
      refine ⟨g, F, δ1, M, xs, δ', ⟨st.m, s1⟩, r2, e', fun σ2 s2 l2 k2 => k σ2 s2 (l2.trans l1) fun j hj => ?_⟩
      have hj' : j ∉ t.ids ++ Tg.idss ts := hj
      rw [List.mem_append, not_or] at hj'
      rw [k2 j hj'.2, k1 j hj'.1]
theorem yg_tup {es : List Expr} {k : Nat} {ts : List Tg} {n : Nat} {pos : Pos} (hc : X.calm = true) (h : PGs X es (tGs S ts)) (hts : ts.length = n := by rfl) (hn : (assignEach es X.env).length = n := by rfl) (hst : (assignEach es X.env).findIdx? (·.1) = none := by rfl) :
    PG X (.Tuple es k pos) (tG S (.tp ts)) := by
  have len : ∀ (ts : List Tg) (xs : List AV) (δ δ' : Sl), Tg.puts ts xs δ = some δ' → xs.length = ts.length := by
    intro ts
    induction ts with
    | nil =>
      intro xs δ δ' e
      cases xs with
      | nil => rfl
      | cons x xs => cases e
    | cons t ts ih =>
      intro xs δ δ' e
      cases xs with
      | nil => cases e
      | cons x xs =>
        have e' : (match t.put x δ with | some δ1 => Tg.puts ts xs δ1 | none => none) = some δ' := e
        cases e1 : t.put x δ with
        | none => rw [e1] at e'; cases e'
        | some δ1 =>
          rw [e1] at e'
          show xs.length + 1 = ts.length + 1
          rw [ih xs δ1 δ' e']
  refine pg_imp (pg_tup hc h hn hst) fun v σ H Q ⟨g, F, δ, M, x, δ', st, r, e, kk⟩ => ?_
  cases x <;> first | (cases (show (none : Option Sl) = some δ' from e); done) | skip
  rename_i xs
  obtain ⟨a, vs, rfl, hI, rv⟩ := r
  have e' : Tg.puts ts xs δ = some δ' := e
  exact ⟨a, vs, rfl, .inl (.inl (st.m.sees _ _ hI)), by rw [← rv.len, len ts xs δ δ' e', hts], g, F, δ, M, xs, δ', st, rv, e', kk⟩
/-! ### plain statements -/
def aSet (i : Nat) (a : AE) : AS := fun δ M => (a δ M).then δ fun x M1 => .nx (δ.set i (some x)) M1
theorem ys_set (i : Nat) {x : Str} {e : Expr} {a : AE} {pos' pos : Pos} (hN : X.N.Nodup) (he : PE X e (tE S W a)) (hi : X.N[i]? = some x := by rfl) (hx : Loc X.env.scope x := by first | exact Or.inl rfl | exact Or.inr rfl) (hs : swapsWith e (some (.Name x pos')) pos.line X.env = pure false := by rfl)
    (hf : X.fn x = true ∨ X.env.scope.names.lookup x = some .local := by first | exact .inl rfl | exact .inr rfl | assumption) : PS X (.Assign [.Name x pos'] e pos) (tS S W (aSet i a)) := by
  refine ps_imp (ps_set hN hi hx he hs hf) fun D σ H ⟨g, F, δ, M, st, p⟩ => ⟨g, F, δ, M, st, ?_⟩
  exact thenE p fun g1 x M1 v H1 e1 st1 r1 p1 => p1 g1 _ H1 (.refl g1) ⟨st1.m, st1.s.set r1⟩
def aAsg (t : Tg) (a : AE) : AS := fun δ M => (a δ M).then δ fun x M1 => match t.put x δ with
  | some δ1 => .nx δ1 M1
  | none => .bad
theorem ys_asg {tg e : Expr} {a : AE} {t : Tg} {pos : Pos} (he : PE X e (tE S W a)) (hg : PG X tg (tG S t)) (hs : swapsWithSole [tg] e pos.line X.env = pure false := by rfl) (hw : swappedStores [tg] e X.env = pure none := by rfl)
    (h1 : (assignEach [tg] X.env).map (·.2) = [assign tg X.env] := by rfl) : PS X (.Assign [tg] e pos) (tS S W (aAsg t a)) := by
  refine ps_imp (ps_asg he hg hs hw h1) fun D σ H ⟨g, F, δ, M, st, p⟩ => ⟨g, F, δ, M, st, ?_⟩
  refine thenE p fun g1 x M1 v H1 e1 st1 r1 p1 => ?_
  cases e2 : t.put x δ with
  | none => simp only [e2] at p1; exact p1.elim
  | some δ1 =>
    simp only [e2] at p1
    exact ⟨g1, F, δ, M1, x, δ1, st1, r1, e2, fun σ' s' l' _ => p1 g1 σ' H1 (.refl g1) ⟨st1.m, s'⟩⟩
/-- a, b = x, y and a, b, c = x, y, z with plain local names -/
def aPar (is : List Nat) (a : AA) : AS := fun δ M => (a δ M).then δ fun xs M1 => match Tg.puts (is.map Tg.nm) xs δ with
  | some δ1 => .nx δ1 M1
  | none => .bad
theorem ys_par (i j : Nat) {x y : Str} {e1 e2 : Expr} {a : AA} {px py pt pos : Pos} {kt k2 pt2} (hc : X.calm = true) (hN : X.N.Nodup) (ha : PA X [e1, e2] (tA S W a)) (hi : X.N[i]? = some x := by rfl) (hj : X.N[j]? = some y := by rfl) (hij : i ≠ j := by decide)
    (hx : X.env.scope.names.lookup x = some .local := by rfl) (hy : X.env.scope.names.lookup y = some .local := by rfl)
    (hw : swappedStores [.Tuple [.Name x px, .Name y py] kt pt] (.Tuple [e1, e2] k2 pt2) X.env = pure (some [x, y]) := by rfl)
    (hs : swapsWithSole [.Tuple [.Name x px, .Name y py] kt pt] (.Tuple [e1, e2] k2 pt2) pos.line X.env = pure false := by rfl) :
    PS X (.Assign [.Tuple [.Name x px, .Name y py] kt pt] (.Tuple [e1, e2] k2 pt2) pos) (tS S W (aPar [i, j] a)) := by
  refine ps_imp (ps_par hc hN hi hj hij hx hy ha hw hs) fun D σ H ⟨g, F, δ, M, st, p⟩ => ⟨g, F, δ, M, st, ?_⟩
  refine thenA p fun g1 xs M1 vs H1 e1 st1 r1 p1 => ?_
  match xs, r1, p1 with
  | [], _, p1 => exact p1.elim
  | [_], _, p1 => exact p1.elim
  | _ :: _ :: _ :: _, _, p1 => exact p1.elim
  | [u, w], r1, p1 =>
    obtain ⟨v1, vr, rfl, q1, v2, vr2, rfl, q2, q3⟩ := r1
    have q3' : vr2 = [] := q3
    subst q3'
    exact ⟨v1, v2, rfl, p1 g1 _ H1 (.refl g1) ⟨st1.m, (st1.s.set q1).set q2⟩⟩
def aExpr (a : AE) : AS := fun δ M => (a δ M).then δ fun _ M1 => .nx δ M1
theorem ys_expr {e : Expr} {a : AE} {pos : Pos} (he : PE X e (tE S W a)) (hs : swapsWith e none pos.line X.env = pure false := by rfl) : PS X (.Expr e pos) (tS S W (aExpr a)) := by
  refine ps_imp (ps_expr he hs) fun D σ H ⟨g, F, δ, M, st, p⟩ => ⟨g, F, δ, M, st, ?_⟩
  exact thenE p fun g1 x M1 v H1 e1 st1 r1 p1 => p1 g1 _ H1 (.refl g1) st1
def aRet (a : AE) : AS := fun δ M => (a δ M).then δ fun x M1 => .rt x M1
theorem ys_ret {e : Expr} {a : AE} {pos : Pos} (he : PE X e (tE S W a)) : PS X (.Return (some e) pos) (tS S W (aRet a)) := by
  refine ps_imp (ps_ret he) fun D σ H ⟨g, F, δ, M, st, p⟩ => ⟨g, F, δ, M, st, ?_⟩
  exact thenE p fun g1 x M1 v H1 e1 st1 r1 p1 => p1 g1 _ H1 (.refl g1) st1.m r1
def aIfS (c : AT) (a b : AS) : AS := fun δ M => (c δ M).then δ fun k M1 => if k = true then a δ M1 else b δ M1
theorem ys_if {c : Expr} {x y : List Stmt} {tc : AT} {a b : AS} {pos : Pos} (hc : PT X c (tT S W tc)) (ha : PSs X x (tS S W a)) (hb : PSs X y (tS S W b)) : PS X (.If c x y pos) (tS S W (aIfS tc a b)) := by
  refine ps_imp (ps_if hc ha hb) fun D σ H ⟨g, F, δ, M, st, p⟩ => ⟨g, F, δ, M, st, ?_⟩
  refine thenT p fun g1 k M1 H1 e1 st1 p1 => ?_
  cases k with
  | true => exact ⟨g1, F, δ, M1, st1, p1⟩
  | false => exact ⟨g1, F, δ, M1, st1, p1⟩
/-- a statement that is not reached -/
def aNever : AS := fun _ _ => .bad
theorem ys_never {st : Stmt} : PS X st (tS S W aNever) := ps_imp ps_never fun D σ H ⟨g, F, δ, M, st, p⟩ => p.elim
/-! ### while -/
def aWhile (c : AT) (b : AS) : Nat → AS
  | 0 => fun _ _ => .bad
  | n + 1 => fun δ M => (c δ M).then δ fun k M1 => if k = true then (match b δ M1 with
      | .nx δ2 M2 => aWhile c b n δ2 M2
      | .ct δ2 M2 => aWhile c b n δ2 M2
      | .bk δ2 M2 => .nx δ2 M2
      | r => r) else .nx δ M1
theorem ys_while (n : Nat) {c : Expr} {body : List Stmt} {tc : AT} {b : AS} {pos : Pos} (hp : PassesOwn (model X.prog X.w) X.A X.env X.xe) (hc : PT X c (tT S W tc)) (hb : PSs X body (tS S W b)) : PS X (.While c body [] pos) (tS S W (aWhile tc b n)) := by
  refine ps_imp (ps_while hp hc hb) fun D σ H ⟨g, F, δ, M, st, p⟩ => ?_
  refine ⟨fun m σ1 H1 => ∃ g1 δ1 M1, g.le g1 ∧ StS S.K g1 F σ1 H1 δ1 M1 ∧ PoS S W F g1 (aWhile tc b m δ1 M1) D, ⟨n, g, δ, M, .refl g, st, p⟩, ?_⟩
  rintro m σ1 H1 ⟨g1, δ1, M1, e1, st1, p1⟩
  cases m with
  | zero => exact p1.elim
  | succ m =>
    refine ⟨g1, F, δ1, M1, st1, ?_⟩
    refine thenT p1 fun g2 k M2 H2 e2 st2 p2 => ?_
    cases k with
    | false => exact p2 g2 _ H2 (.refl g2) st2
    | true =>
      refine ⟨fun σ3 H3 => ∃ g3 δ3 M3, g.le g3 ∧ StS S.K g3 F σ3 H3 δ3 M3 ∧ PoS S W F g3 (aWhile tc b m δ3 M3) D, fun σ3 H3 ⟨g3, δ3, M3, e3, st3, p3⟩ => ⟨m, Nat.lt_succ_self m, g3, δ3, M3, e3, st3, p3⟩, g2, F, δ1, M2, st2, ?_⟩
      simp only [if_true] at p2
      cases hb' : b δ1 M2 <;> simp only [hb'] at p2
      · exact p2
      · exact fun g3 σ3 H3 e3 st3 => ⟨g3, _, _, (e1.trans e2).trans e3, st3, PoS.mono e3 p2⟩
      · exact p2
      · exact fun g3 σ3 H3 e3 st3 => p2 g3 σ3 H3 e3 st3
      · exact fun g3 σ3 H3 e3 st3 => ⟨g3, _, _, (e1.trans e2).trans e3, st3, PoS.mono e3 p2⟩
      · exact p2
/-! ### what is walked -/
/-- the iterator J yields the items xs, whatever stands besides -/
def Yl (S : Sy) (J : It) (g : Gh) (xs : List AV) : Prop := ∀ (i : Nat) (g1 : Gh) (F : Fm) (σ : Sg) (H : Hp) (δ : Sl) (M : Mem), g.le g1 → StS S.K g1 F σ H δ M →
  (∀ x, xs[i]? = some x → J.go i H ∧ ∀ v H2, J.yld i H v H2 → ∃ g2, g1.le g2 ∧ StS S.K g2 F σ H2 δ M ∧ Rep S.K g2 x v) ∧ (xs.length ≤ i → J.stop i H)
section
variable (S : Sy) (W : WX) (F : Fm) (σ : Sg) (δ : Sl) (g : Gh)
def PoI (r : Res (List AV)) (R : It → Hp → Prop) : Prop := match r with
  | .bad => False
  | .ok xs M => ∀ g' J H', g.le g' → StS S.K g' F σ H' δ M → Yl S J g' xs → R J H'
  | .exc x M => PoX S W F σ δ g x M
end
def tI (S : Sy) (W : WX) (a : AI) : TI := fun σ H R => ∃ g F δ M, StS S.K g F σ H δ M ∧ PoI S W F σ δ g (a δ M) R
/-- over a frozen list -/
def aItL (a : AE) : AI := fun δ M => (a δ M).bind fun x M1 => match x with
  | .lst xs => .ok xs M1
  | _ => .bad
theorem PoI.mono {F : Fm} {σ : Sg} {δ : Sl} {g g' : Gh} (e : g.le g') {r : Res (List AV)} {R : It → Hp → Prop} (h : PoI S W F σ δ g r R) : PoI S W F σ δ g' r R := by
  cases r with
  | bad => exact h
  | ok r M => exact fun g2 v H' e2 => h g2 v H' (e.trans e2)
  | exc x M => exact PoX.mono e h
theorem bindEI {F : Fm} {σ : Sg} {δ : Sl} {g : Gh} {r : Res AV} {k : AV → Mem → Res (List AV)} {R : It → Hp → Prop} {Q : VK} (h : PoI S W F σ δ g (r.bind k) R)
    (hk : ∀ g' x M' v H', g.le g' → StS S.K g' F σ H' δ M' → Rep S.K g' x v → PoI S W F σ δ g' (k x M') R → Q v H') : PoE S W F σ δ g r Q :=
  bindE (P := fun g r => PoI S W F σ δ g r R) (fun _ _ e h => h.mono e) id (fun _ _ h => h) h hk
theorem bindAI {F : Fm} {σ : Sg} {δ : Sl} {g : Gh} {r : Res (List AV)} {k : List AV → Mem → Res (List AV)} {R : It → Hp → Prop} {Q : List V → Hp → Prop} (h : PoI S W F σ δ g (r.bind k) R)
    (hk : ∀ g' x M' v H', g.le g' → StS S.K g' F σ H' δ M' → RepL S.K g' x v → PoI S W F σ δ g' (k x M') R → Q v H') : PoA S W F σ δ g r Q :=
  bindAP (P := fun g r => PoI S W F σ δ g r R) (fun _ _ e h => h.mono e) id (fun _ _ h => h) h hk
theorem yl_list {g : Gh} {a : Addr} {xs : List AV} {vs : List V} (hI : g.I a = some (.lst vs)) (rv : RepL S.K g xs vs) : Yl S (Itl S.K a) g xs := by
  intro i g1 F σ H δ M e1 st1
  have hH : SqL S.K H a vs := .inl (.inl (st1.m.sees _ _ (e1.same _ _ hI)))
  refine ⟨fun x hx => ?_, fun hl => ⟨vs, hH, by rw [← rv.len]; exact hl⟩⟩
  obtain ⟨v, hv, r⟩ := rv.get hx
  refine ⟨⟨vs, v, hH, hv⟩, fun v2 H2 hy => ?_⟩
  obtain ⟨rfl, k⟩ := hy
  have e : v2 = v := Option.some.inj ((k _ hH).symm.trans hv)
  subst e
  exact ⟨g1, .refl g1, st1, r.mono e1⟩
theorem yi_list {tg e : Expr} {a : AE} (hK : X.K = S.K) (he : PE X e (tE S W a)) (h : ∀ te, PE X e te → PI X tg e (iList X.K te) := by intro te h; exact pi_list h) : PI X tg e (tI S W (aItL a)) := by
  refine pi_imp (h _ he) fun σ H R ⟨g, F, δ, M, st, p⟩ => ⟨g, F, δ, M, st, ?_⟩
  refine bindEI p fun g1 x M1 v H1 e1 st1 r1 p1 => ?_
  cases x <;> first | exact p1.elim | skip
  rename_i xs
  obtain ⟨q, vs, rfl, hI, rv⟩ := r1
  have hH := st1.m.sees _ _ hI
  rw [hK]
  exact ⟨q, rfl, ⟨vs, .inl (.inl hH)⟩, p1 g1 _ H1 (.refl g1) st1 (yl_list hI rv)⟩
def rngA (lo : Int) (n : Nat) : List AV := (List.range n).map fun i : Nat => AV.int (lo + i)
theorem yl_rng {g : Gh} {lo : Int} {n : Nat} : Yl S (Itr lo n) g (rngA lo n) := by
  intro i g1 F σ H δ M e1 st1
  refine ⟨fun x hx => ?_, fun hl => ?_⟩
  · unfold rngA at hx
    rw [List.getElem?_map] at hx
    by_cases hi : i < n
    · rw [List.getElem?_range hi] at hx
      cases hx
      refine ⟨hi, fun v2 H2 hy => ?_⟩
      obtain ⟨rfl, rfl⟩ := hy
      exact ⟨g1, .refl g1, st1, rfl⟩
    · rw [List.getElem?_eq_none (by rw [List.length_range]; omega)] at hx
      cases hx
  · unfold rngA at hl
    rw [List.length_map, List.length_range] at hl
    exact hl
def rngOk (i : Int) : Prop := -(2 ^ 62) ≤ i ∧ i < 2 ^ 62
open Classical in
/-- over range(n), range(a, b) -/
noncomputable def aItR1 (a : AA) : AI := fun δ M => (a δ M).bind fun xs M1 => match xs with
  | [.int j] => if rngOk j then .ok (rngA 0 j.toNat) M1 else .bad
  | _ => .bad
open Classical in
noncomputable def aItR2 (a : AA) : AI := fun δ M => (a δ M).bind fun xs M1 => match xs with
  | [.int i, .int j] => if rngOk i ∧ rngOk j then .ok (rngA i (j - i).toNat) M1 else .bad
  | _ => .bad
theorem rngOk_of {i : Int} (h : rngOk i) : -(2 ^ 62) ≤ i ∧ i < 2 ^ 62 := h
theorem yi_range1 {tg e : Expr} {a : AA} {p pos : Pos} (hm : X.mg "range" = none) (ha : PA X [e] (tA S W a)) (hg : Gl X "range" := by rfl) (hs : starEach [e] X.env = [(false, eval e X.env)] := by rfl) : PI X tg (.Call (.Name "range" p) [e] [] pos) (tI S W (aItR1 a)) := by
  refine pi_imp (pi_range1 hg hm ha hs) fun σ H R ⟨g, F, δ, M, st, p⟩ => ⟨g, F, δ, M, st, ?_⟩
  refine bindAI p fun g1 xs M1 vs H1 e1 st1 r1 p1 => ?_
  split at p1
  · obtain ⟨v, r, rfl, q1, q2⟩ := r1
    have q1' : v = .int _ := q1
    have q2' : r = [] := q2
    subst q1' q2'
    obtain ⟨c, p2⟩ := ifok (P := fun r => PoI S W F σ δ g1 r R) id p1
    obtain ⟨c1, c2⟩ := rngOk_of c
    exact ⟨_, rfl, c1, c2, p2 g1 _ H1 (.refl g1) st1 yl_rng⟩
  · exact p1.elim
theorem yi_range2 {tg e e2 : Expr} {a : AA} {p pos : Pos} (hm : X.mg "range" = none) (ha : PA X [e, e2] (tA S W a)) (hg : Gl X "range" := by rfl) (hs : starEach [e, e2] X.env = [(false, eval e X.env), (false, eval e2 X.env)] := by rfl) (hs2 : starEach [e2] X.env = [(false, eval e2 X.env)] := by rfl) :
    PI X tg (.Call (.Name "range" p) [e, e2] [] pos) (tI S W (aItR2 a)) := by
  refine pi_imp (pi_range2 hg hm ha hs hs2) fun σ H R ⟨g, F, δ, M, st, p⟩ => ⟨g, F, δ, M, st, ?_⟩
  refine bindAI p fun g1 xs M1 vs H1 e1 st1 r1 p1 => ?_
  split at p1
  · obtain ⟨v, r, rfl, q1, v2, r2, rfl, q2, q3⟩ := r1
    have q1' : v = .int _ := q1
    have q2' : v2 = .int _ := q2
    have q3' : r2 = [] := q3
    subst q1' q2' q3'
    obtain ⟨c, p2⟩ := ifok (P := fun r => PoI S W F σ δ g1 r R) id p1
    obtain ⟨c1, c2⟩ := rngOk_of c.1
    obtain ⟨c3, c4⟩ := rngOk_of c.2
    exact ⟨_, _, rfl, ⟨c1, c2, c3, c4⟩, p2 g1 _ H1 (.refl g1) st1 yl_rng⟩
  · exact p1.elim
def rngC (lo c : Int) (n : Nat) : List AV := (List.range n).map fun i : Nat => AV.int (lo + (i : Nat) * c)
theorem yl_rngC {g : Gh} {lo c : Int} {n : Nat} : Yl S (Itc lo c n) g (rngC lo c n) := by
  intro i g1 F σ H δ M e1 st1
  refine ⟨fun x hx => ?_, fun hl => ?_⟩
  · unfold rngC at hx
    rw [List.getElem?_map] at hx
    by_cases hi : i < n
    · rw [List.getElem?_range hi] at hx
      cases hx
      refine ⟨hi, fun v2 H2 hy => ?_⟩
      obtain ⟨rfl, rfl⟩ := hy
      exact ⟨g1, .refl g1, st1, rfl⟩
    · rw [List.getElem?_eq_none (by rw [List.length_range]; omega)] at hx
      cases hx
  · unfold rngC at hl
    rw [List.length_map, List.length_range] at hl
    exact hl
def rngCok (i j c : Int) : Prop := c ≠ 0 ∧ c.natAbs < 1073741824 ∧ Builtin.Range.small i j c = true
open Classical in
noncomputable def aItR3 (a : AA) : AI := fun δ M => (a δ M).bind fun xs M1 => match xs with
  | [.int i, .int j, .int c] => if rngCok i j c then .ok (rngC i c (Builtin.Range.rangeSize i j c).toNat) M1 else .bad
  | _ => .bad
theorem rangeSize_nn (i j c : Int) : 0 ≤ Builtin.Range.rangeSize i j c := by
  unfold Builtin.Range.rangeSize
  split
  · split
    · have := Int.ediv_nonneg (a := j - i - 1) (b := c) (by omega) (by omega)
      omega
    · omega
  · split
    · have := Int.ediv_nonneg (a := i - j - 1) (b := -c) (by omega) (by omega)
      omega
    · omega
theorem yi_range3 {tg e e2 e3 : Expr} {a : AA} {p pos : Pos} (hm : X.mg "range" = none) (ha : PA X [e, e2, e3] (tA S W a)) (hg : Gl X "range" := by rfl) (hs : starEach [e, e2, e3] X.env = (false, eval e X.env) :: starEach [e2, e3] X.env := by rfl) (hpl : (backTo pos (starEach [e2, e3] X.env)).any (·.1) = false := by rfl) :
    PI X tg (.Call (.Name "range" p) [e, e2, e3] [] pos) (tI S W (aItR3 a)) := by
  refine pi_imp (pi_range3 hg hm ha hs hpl) fun σ H R ⟨g, F, δ, M, st, p⟩ => ⟨g, F, δ, M, st, ?_⟩
  refine bindAI p fun g1 xs M1 vs H1 e1 st1 r1 p1 => ?_
  split at p1
  · obtain ⟨v, r, rfl, q1, v2, r2, rfl, q2, v3, r3, rfl, q3, q4⟩ := r1
    have q1' : v = .int _ := q1
    have q2' : v2 = .int _ := q2
    have q3' : v3 = .int _ := q3
    have q4' : r3 = [] := q4
    subst q1' q2' q3' q4'
    obtain ⟨c, p2⟩ := ifok (P := fun r => PoI S W F σ δ g1 r R) id p1
    exact ⟨_, _, _, _, rfl, ⟨c.1, c.2.1, c.2.2, (Int.toNat_of_nonneg (rangeSize_nn _ _ _)).symm⟩, p2 g1 _ H1 (.refl g1) st1 yl_rngC⟩
  · exact p1.elim
/-- enumerate(xs), zip(xs, ys) of frozen lists -/
def enumA (xs : List AV) : List AV := xs.zipIdx.map fun p => AV.tup [.int (p.2 : Nat), p.1]
def aItE (a : AA) : AI := fun δ M => (a δ M).bind fun xs M1 => match xs with
  | [.lst ys] => .ok (enumA ys) M1
  | _ => .bad
theorem yi_enum {elts : List Expr} {kk : Nat} {tpos : Pos} {e : Expr} {a : AA} {p pos : Pos} (hm : X.mg "enumerate" = none) (ha : PA X [e] (tA S W a)) (hg : Gl X "enumerate" := by rfl) (hs : starEach [e] X.env = [(false, eval e X.env)] := by rfl) :
    PI X (.Tuple elts kk tpos) (.Call (.Name "enumerate" p) [e] [] pos) (tI S W (aItE a)) := by
  refine pi_imp (pi_enum hg hm ha hs) fun σ H R ⟨g, F, δ, M, st, p⟩ => ⟨g, F, δ, M, st, ?_⟩
  refine bindAI p fun g1 xs M1 vs H1 e1 st1 r1 p1 => ?_
  split at p1
  · obtain ⟨v, r, rfl, q1, q2⟩ := r1
    obtain ⟨q, ws, rfl, hI, rv⟩ := q1
    have q2' : r = [] := q2
    subst q2'
    refine ⟨q, ws, rfl, .inl (.inl (st1.m.sees _ _ hI)), p1 g1 _ H1 (.refl g1) st1 fun i g2 F2 σ2 H2 δ2 M2 e2 st2 => ?_⟩
    have hH : SqL X.K H2 q ws := .inl (.inl (st2.m.sees _ _ (e2.same _ _ hI)))
    refine ⟨fun x hx => ?_, fun hl => ⟨ws, hH, ?_⟩⟩
    · unfold enumA at hx
      rw [List.getElem?_map, List.getElem?_zipIdx] at hx
      cases hy : (‹List AV› : List AV)[i]? with
      | none => rw [hy] at hx; cases hx
      | some y =>
        rw [hy] at hx
        obtain ⟨v, hv, rp⟩ := rv.get hy
        cases hx
        refine ⟨⟨ws, v, hH, hv⟩, fun v2 H3 hyl => ?_⟩
        obtain ⟨T, w, rfl, hT, rfl, k⟩ := hyl
        have ew : w = v := Option.some.inj ((k _ hH).symm.trans hv)
        subst ew
        have e3 := Gh.le_put (o := .tup [.int (i : Nat), w]) (st2.m.dark hT)
        refine ⟨_, e3, ⟨st2.m.put hT, st2.s.mono e3⟩, T, _, rfl, upd_same, _, _, rfl, ?_, _, _, rfl, (rp.mono e2).mono e3, rfl⟩
        show V.int _ = V.int _
        rw [Nat.zero_add]
    · unfold enumA at hl
      rw [List.length_map, List.length_zipIdx] at hl
      rw [← rv.len]
      exact hl
  · exact p1.elim
def aItZ (a : AA) : AI := fun δ M => (a δ M).bind fun xs M1 => match xs with
  | [.lst ys, .lst zs] => .ok (List.zipWith (fun y z => AV.tup [y, z]) ys zs) M1
  | _ => .bad
theorem yi_zip {elts : List Expr} {kk : Nat} {tpos : Pos} {e e2 : Expr} {a : AA} {p pos : Pos} (hm : X.mg "zip" = none) (ha : PA X [e, e2] (tA S W a)) (hg : Gl X "zip" := by rfl) (hs : starEach [e, e2] X.env = (false, eval e X.env) :: starEach [e2] X.env := by rfl) (hpl : (backTo pos (starEach [e2] X.env)).any (·.1) = false := by rfl) :
    PI X (.Tuple elts kk tpos) (.Call (.Name "zip" p) [e, e2] [] pos) (tI S W (aItZ a)) := by
  refine pi_imp (pi_zip hg hm ha hs hpl) fun σ H R ⟨g, F, δ, M, st, p⟩ => ⟨g, F, δ, M, st, ?_⟩
  refine bindAI p fun g1 xs M1 vs H1 e1 st1 r1 p1 => ?_
  split at p1
  · rename_i ys zs
    obtain ⟨v, r, rfl, ⟨q, ws, rfl, hI, rv⟩, v2, r2, rfl, ⟨q', ws', rfl, hI', rv'⟩, q3⟩ := r1
    have q3' : r2 = [] := q3
    subst q3'
    refine ⟨q, q', ws, ws', rfl, .inl (.inl (st1.m.sees _ _ hI)), .inl (.inl (st1.m.sees _ _ hI')), p1 g1 _ H1 (.refl g1) st1 fun i g2 F2 σ2 H2 δ2 M2 e2 st2 => ?_⟩
    have hH : SqL X.K H2 q ws := .inl (.inl (st2.m.sees _ _ (e2.same _ _ hI)))
    have hH' : SqL X.K H2 q' ws' := .inl (.inl (st2.m.sees _ _ (e2.same _ _ hI')))
    refine ⟨fun x hx => ?_, fun hl => ⟨ws, ws', hH, hH', ?_⟩⟩
    · rw [List.getElem?_zipWith] at hx
      cases hy : ys[i]? with
      | none => rw [hy] at hx; cases hx
      | some y =>
        cases hz : zs[i]? with
        | none => rw [hy, hz] at hx; cases hx
        | some z =>
          rw [hy, hz] at hx
          obtain ⟨v, hv, rp⟩ := rv.get hy
          obtain ⟨v', hv', rp'⟩ := rv'.get hz
          cases hx
          refine ⟨⟨ws, ws', v, v', hH, hH', hv, hv'⟩, fun v2 H3 hyl => ?_⟩
          obtain ⟨T, w, w', rfl, hT, rfl, k, k'⟩ := hyl
          have ew : w = v := Option.some.inj ((k _ hH).symm.trans hv)
          have ew' : w' = v' := Option.some.inj ((k' _ hH').symm.trans hv')
          subst ew ew'
          have e3 := Gh.le_put (o := .tup [w, w']) (st2.m.dark hT)
          exact ⟨_, e3, ⟨st2.m.put hT, st2.s.mono e3⟩, T, _, rfl, upd_same, _, _, rfl, (rp.mono e2).mono e3, _, _, rfl, (rp'.mono e2).mono e3, rfl⟩
    · rw [List.length_zipWith] at hl
      rw [← rv.len, ← rv'.len]
      omega
  · exact p1.elim
/-! ### for -/
def forL (t : Tg) (b : AS) : List AV → AS
  | [] => fun δ M => .nx δ M
  | x :: xs => fun δ M => match t.put x δ with
    | none => .bad
    | some δ1 => match b δ1 M with
      | .nx δ2 M2 => forL t b xs δ2 M2
      | .ct δ2 M2 => forL t b xs δ2 M2
      | .bk δ2 M2 => .nx δ2 M2
      | r => r
def aFor (a : AI) (t : Tg) (b : AS) : AS := fun δ M => (a δ M).then δ fun xs M1 => forL t b xs δ M1
theorem thenI {F : Fm} {g : Gh} {σ : Sg} {δ : Sl} {D : Ends} {r : Res (List AV)} {k : List AV → Mem → SRes} {R : It → Hp → Prop} (h : PoS S W F g (r.then δ k) D)
    (hk : ∀ g' xs M' J H', g.le g' → StS S.K g' F σ H' δ M' → Yl S J g' xs → PoS S W F g' (k xs M') D → R J H') : PoI S W F σ δ g r R := by
  cases r with
  | bad => exact h
  | ok x M' => exact fun g' v H' e st rp => hk g' x M' v H' e st rp (PoS.mono e h)
  | exc x M' => exact thenX h
theorem ys_for {tg iter : Expr} {body : List Stmt} {a : AI} {t : Tg} {b : AS} {pos : Pos} (hp : PassesOwn (model X.prog X.w) X.A X.env X.xe) (hc : X.calm = true) (hi : PI X tg iter (tI S W a)) (hg : PG X tg (tG S t)) (hb : PSs X body (tS S W b))
    (hs : ∀ x, foldedSetIterable iter X.env x = pure x := by intro _; rfl) : PS X (.For tg iter body [] pos) (tS S W (aFor a t b)) := by
  refine ps_imp (ps_for hp hc hi hg hb hs) fun D σ H ⟨g, F, δ, M, st, p⟩ => ⟨g, F, δ, M, st, ?_⟩
  refine thenI p fun g1 xs M1 J H1 e1 st1 yl p1 => ?_
  refine ⟨fun i m σ2 H2 => ∃ g2 δ2 M2, g1.le g2 ∧ StS S.K g2 F σ2 H2 δ2 M2 ∧ i + m = xs.length ∧ PoS S W F g2 (forL t b (xs.drop i) δ2 M2) D, ⟨xs.length, g1, δ, M1, .refl g1, st1, Nat.zero_add _, p1⟩, ?_⟩
  rintro i m σ2 H2 ⟨g2, δ2, M2, e2, st2, em, p2⟩
  obtain ⟨y1, y2⟩ := yl i g2 F σ2 H2 δ2 M2 e2 st2
  by_cases hlt : i < xs.length
  · obtain ⟨go, yd⟩ := y1 xs[i] (List.getElem?_eq_getElem hlt)
    rw [List.drop_eq_getElem_cons hlt] at p2
    refine .inr ⟨go, fun σ' H' => ∃ g3 δ3 M3, g1.le g3 ∧ StS S.K g3 F σ' H' δ3 M3 ∧ PoS S W F g3 (forL t b (xs.drop (i + 1)) δ3 M3) D, fun σ' H' ⟨g3, δ3, M3, e3, st3, p3⟩ => ⟨m - 1, by omega, g3, δ3, M3, e3, st3, by omega, p3⟩, fun v H3 hy => ?_⟩
    obtain ⟨g3, e3, st3, rp⟩ := yd v H3 hy
    have p3 : PoS S W F g3 (match t.put xs[i] δ2 with | none => .bad | some δ1 => match b δ1 M2 with | .nx δ2 M2 => forL t b (xs.drop (i + 1)) δ2 M2 | .ct δ2 M2 => forL t b (xs.drop (i + 1)) δ2 M2 | .bk δ2 M2 => .nx δ2 M2 | r => r) D := PoS.mono e3 p2
    cases hput : t.put xs[i] δ2 with
    | none => rw [hput] at p3; exact p3.elim
    | some δ3 =>
      rw [hput] at p3
      refine ⟨g3, F, δ2, M2, xs[i], δ3, st3, rp, hput, fun σ4 s4 _ _ => ⟨g3, F, δ3, M2, ⟨st3.m, s4⟩, ?_⟩⟩
      cases hb' : b δ3 M2 <;> simp only [hb'] at p3
      · exact p3
      · exact fun g5 σ5 H5 e5 st5 => ⟨g5, _, _, (e2.trans e3).trans e5, st5, PoS.mono e5 p3⟩
      · exact p3
      · exact fun g5 σ5 H5 e5 st5 => p3 g5 σ5 H5 e5 st5
      · exact fun g5 σ5 H5 e5 st5 => ⟨g5, _, _, (e2.trans e3).trans e5, st5, PoS.mono e5 p3⟩
      · exact p3
  · have hd : xs.drop i = [] := List.drop_of_length_le (by omega)
    rw [hd] at p2
    exact .inl ⟨y2 (by omega), p2 g2 σ2 H2 (.refl g2) st2⟩
/-! ### comprehensions -/
def wipeA (δ : Sl) : List Nat → Sl
  | [] => δ
  | i :: is => (wipeA δ is).set i none
theorem Slots.wipe {K : PySem.W.Frag} {g : Gh} {σ : Sg} {δ : Sl} (h : Slots K g σ δ) : ∀ is : List Nat, Slots K g (L2.wipe σ is) (wipeA δ is)
  | [] => h
  | i :: is => (Slots.wipe h is).unset none
def lcL (t : Tg) (c : AT) (e : AE) (δ : Sl) : List AV → List AV → Mem → Res (List AV)
  | [], acc, M => .ok acc M
  | x :: xs, acc, M => match t.put x δ with
    | none => .bad
    | some δ1 => match c δ1 M with
      | .ok false M1 => lcL t c e δ xs acc M1
      | .ok true M1 => match e δ1 M1 with
        | .ok y M2 => if acc.length < lim then lcL t c e δ xs (acc ++ [y]) M2 else .bad
        | _ => .bad
      | _ => .bad
/-- the list frozen at once | a list that may change -/
def aLc (a : AI) (own : List Nat) (t : Tg) (c : AT) (e : AE) : AE := fun δ M => (a δ M).bind fun xs M1 => (lcL t c e (wipeA δ own) xs [] M1).bind fun ys M2 => .ok (.lst ys) M2
def aLcN (a : AI) (own : List Nat) (t : Tg) (c : AT) (e : AE) : AE := fun δ M => (a δ M).bind fun xs M1 => (lcL t c e (wipeA δ own) xs [] M1).bind fun ys M2 => .ok (.ptr M2.length) (M2 ++ [.lst ys])
theorem wipe_at : ∀ (σ : Sg) (is : List Nat) (j : Nat), j ∉ is → (L2.wipe σ is)[j]? = σ[j]?
  | σ, [], j, _ => rfl
  | σ, i :: is, j, h => by
    rw [List.mem_cons, not_or] at h
    show ((L2.wipe σ is).set i none)[j]? = σ[j]?
    rw [List.getElem?_set_ne (fun z => h.1 z.symm), wipe_at σ is j h.2]
theorem wipe_in : ∀ (σ : Sg) (is : List Nat) (j : Nat), j ∈ is → (L2.wipe σ is)[j]? = if j < σ.length then some none else none
  | σ, i :: is, j, h => by
    show ((L2.wipe σ is).set i none)[j]? = _
    by_cases hj : i = j
    · subst hj
      rw [List.getElem?_set]
      simp [wipe_length]
    · rw [List.getElem?_set_ne hj]
      rw [List.mem_cons] at h
      exact wipe_in σ is j (h.resolve_left fun z => hj z.symm)
theorem wipe_eq {σ σ' : Sg} {is : List Nat} (hl : σ'.length = σ.length) (h : ∀ j, j ∉ is → σ'[j]? = σ[j]?) : L2.wipe σ' is = L2.wipe σ is := by
  refine List.ext_getElem? fun j => ?_
  by_cases hj : j ∈ is
  · rw [wipe_in σ' is j hj, wipe_in σ is j hj, hl]
  · rw [wipe_at σ' is j hj, wipe_at σ is j hj, h j hj]
/-- the frame's own thing changes, is frozen, becomes a numbered one -/
theorem StM.frSet {K : PySem.W.Frag} {g : Gh} {F : Fm} {H : Hp} {M : Mem} {p : Addr} {o o' : HO} (h : StM K g ((p, o) :: F) H M) (hF : ∀ q ∈ F, q.1 ≠ p) : StM K g ((p, o') :: F) (upd H p o') M := by
  obtain ⟨q1, q2, q3⟩ := h.frame (p, o) List.mem_cons_self
  refine ⟨fun b u e => ?_, h.len, h.nd, fun l c a hc ha => ?_, fun q hq => ?_⟩
  · rw [upd_ne (ne_of_none e q2)]
    exact h.sees _ _ e
  · have hap : a ≠ p := fun z => q3 (z ▸ List.mem_of_getElem? ha)
    exact (h.cells l c a hc ha).keep (Gh.le.refl _) (fun u q => by rw [upd_ne hap]; exact q) fun z => z
  · rcases List.mem_cons.mp hq with z | z
    · subst z
      exact ⟨upd_same, q2, q3⟩
    · obtain ⟨k1, k2, k3⟩ := h.frame q (List.mem_cons_of_mem _ z)
      exact ⟨by rw [upd_ne (hF q z)]; exact k1, k2, k3⟩
theorem StM.frAdd {K : PySem.W.Frag} {g : Gh} {F : Fm} {H : Hp} {M : Mem} {p : Addr} {o : HO} (h : StM K g F H M) (hp : H p = none) : StM K g ((p, o) :: F) (upd H p o) M := by
  refine ⟨fun b u e => ?_, h.len, h.nd, fun l c a hc ha => ?_, fun q hq => ?_⟩
  · rw [upd_ne (ne_of_none (h.sees _ _ e) hp)]
    exact h.sees _ _ e
  · have hap : a ≠ p := fun z => h.fresh hp (z ▸ List.mem_of_getElem? ha)
    exact (h.cells l c a hc ha).keep (Gh.le.refl _) (fun u q => by rw [upd_ne hap]; exact q) fun z => z
  · rcases List.mem_cons.mp hq with z | z
    · subst z
      exact ⟨upd_same, h.dark hp, h.fresh hp⟩
    · obtain ⟨k1, k2, k3⟩ := h.frame q z
      exact ⟨by rw [upd_ne (ne_of_none k1 hp)]; exact k1, k2, k3⟩
theorem StM.frFrz {K : PySem.W.Frag} {g : Gh} {F : Fm} {H : Hp} {M : Mem} {p : Addr} {o : HO} (h : StM K g ((p, o) :: F) H M) (hF : ∀ q ∈ F, q.1 ≠ p) : g.le (g.put p o) ∧ StM K (g.put p o) F H M := by
  obtain ⟨q1, q2, q3⟩ := h.frame (p, o) List.mem_cons_self
  have e := Gh.le_put (o := o) q2
  refine ⟨e, fun b u k => ?_, h.len, h.nd, fun l c a hc ha => ?_, fun q hq => ?_⟩
  · by_cases hb : b = p
    · subst hb
      have k' : upd g.I b o b = some u := k
      rw [upd_same] at k'
      cases k'
      exact q1
    · have k' : upd g.I p o b = some u := k
      rw [upd_ne hb] at k'
      exact h.sees _ _ k'
  · have hap : a ≠ p := fun z => q3 (z ▸ List.mem_of_getElem? ha)
    refine (h.cells l c a hc ha).keep e (fun u q => q) fun z => ?_
    show upd g.I p o a = none
    rw [upd_ne hap]
    exact z
  · obtain ⟨k1, k2, k3⟩ := h.frame q (List.mem_cons_of_mem _ hq)
    refine ⟨k1, ?_, k3⟩
    show upd g.I p o q.1 = none
    rw [upd_ne (hF q hq)]
    exact k2
theorem StM.frNew {K : PySem.W.Frag} {g : Gh} {F : Fm} {H : Hp} {M : Mem} {p : Addr} {o : HO} {c : MO} (h : StM K g ((p, o) :: F) H M) (hF : ∀ q ∈ F, q.1 ≠ p) (hc : MOk K (g.add p) H p c) : g.le (g.add p) ∧ StM K (g.add p) F H (M ++ [c]) := by
  obtain ⟨q1, q2, q3⟩ := h.frame (p, o) List.mem_cons_self
  refine ⟨Gh.le_add, h.sees, ?_, ?_, fun l c' a hc' ha => ?_, fun q hq => ?_⟩
  · show (g.ρ ++ [p]).length = (M ++ [c]).length
    rw [List.length_append, List.length_append, h.len]
    rfl
  · show (g.ρ ++ [p]).Nodup
    rw [List.nodup_append]
    refine ⟨h.nd, by simp, fun x hx y hy => ?_⟩
    have : y = p := by simpa using hy
    subst this
    exact fun z => q3 (z ▸ hx)
  · have ha' : (g.ρ ++ [p])[l]? = some a := ha
    by_cases hl : l < M.length
    · rw [List.getElem?_append_left hl] at hc'
      rw [List.getElem?_append_left (by rw [h.len]; exact hl)] at ha'
      exact (h.cells l c' a hc' ha').keep Gh.le_add (fun u q => q) fun z => z
    · have hl2 : l = M.length := by
        have := (List.getElem?_eq_some_iff.mp hc').1
        rw [List.length_append] at this
        simp at this
        omega
      subst hl2
      rw [List.getElem?_append_right (Nat.le_refl _), Nat.sub_self] at hc'
      rw [List.getElem?_append_right (by rw [h.len]; exact Nat.le_refl _), h.len, Nat.sub_self] at ha'
      simp at hc' ha'
      subst hc' ha'
      exact hc
  · obtain ⟨k1, k2, k3⟩ := h.frame q (List.mem_cons_of_mem _ hq)
    refine ⟨k1, k2, ?_⟩
    show q.1 ∉ g.ρ ++ [p]
    intro hm
    rcases List.mem_append.mp hm with z | z
    · exact k3 z
    · exact hF q hq (by simpa using z)
abbrev W0 : WX := fun _ _ _ _ => False
def tTs (S : Sy) (c : AT) : TT := tT S W0 c
def aYes : AT := fun _ M => .ok true M
theorem yts_nil {X : Cx} {S : Sy} : PTs X [] (tTs S aYes) := ⟨fun pins s σ H Q I h => pts_nil.run pins s σ H Q I (by
  obtain ⟨g, F, δ, M, st, p⟩ := h
  exact p g H (.refl g) st)⟩
theorem yts_one {X : Cx} {S : Sy} {c : Expr} {t : AT} (h : PT X c (tT S W0 t)) : PTs X [c] (tTs S t) := pts_one h
theorem bindIE {F : Fm} {g : Gh} {σ : Sg} {δ : Sl} {r : Res (List AV)} {k : List AV → Mem → Res AV} {Q : VK} {R : It → Hp → Prop} (h : PoE S W F σ δ g (r.bind k) Q)
    (hk : ∀ g' xs M' J H', g.le g' → StS S.K g' F σ H' δ M' → Yl S J g' xs → PoE S W F σ δ g' (k xs M') Q → R J H') : PoI S W F σ δ g r R := by
  cases r with
  | bad => exact h
  | ok x M' => exact fun g' v H' e st rp => hk g' x M' v H' e st rp (PoE.mono e h)
  | exc x M' => exact h
/-- the reading of a comprehension: what is left is to hand on the made list -/
theorem lc_core_y {S : Sy} {W : WX} {a : AI} {own : List Nat} {t : Tg} {c : AT} {e : AE} (hid : ∀ j ∈ t.ids, j ∈ own) {k : List AV → Mem → Res AV}
    (hend : ∀ (g' : Gh) (F : Fm) (σ : Sg) (δ : Sl) (D : Addr) (ys : List AV) (vs : List V) (H' : Hp) (M' : Mem) (Q : VK), (∀ q ∈ F, q.1 ≠ D) → StM S.K g' ((D, .lst vs) :: F) H' M' → Slots S.K g' σ δ → RepL S.K g' ys vs → PoE S W F σ δ g' (k ys M') Q → Q (.ref D) H') :
    ∀ σ H Q, tE S W (fun δ M => (a δ M).bind fun xs M1 => (lcL t c e (wipeA δ own) xs [] M1).bind k) σ H Q → tLc (tI S W a) (tG S t) (tTs S c) (tE S W0 e) own σ H Q := by
  rintro σ H Q ⟨g, F, δ, M, st, p⟩
  refine ⟨g, F, δ, M, st, ?_⟩
  refine bindIE p fun g1 xs M1 J H1 e1 st1 yl p1 => ?_
  intro D hD
  have sl := st1.s.wipe own
  have hF : ∀ q ∈ F, q.1 ≠ D := fun q hq => ne_of_none (st1.m.frame q hq).1 hD
  refine ⟨fun i m H2 => ∃ g2 M2 acc accV, g1.le g2 ∧ StS S.K g2 ((D, .lst accV) :: F) (L2.wipe σ own) H2 (wipeA δ own) M2 ∧ RepL S.K g2 acc accV ∧ i + m = xs.length ∧ PoE S W F σ δ g2 ((lcL t c e (wipeA δ own) (xs.drop i) acc M2).bind k) Q,
    ⟨xs.length, g1, M1, [], [], .refl g1, ⟨st1.m.frAdd hD, sl⟩, rfl, Nat.zero_add _, p1⟩, ?_⟩
  rintro i m H2 ⟨g2, M2, acc, accV, e2, st2, rv, em, p2⟩
  obtain ⟨y1, y2⟩ := yl i g2 _ _ H2 _ M2 e2 st2
  by_cases hlt : i < xs.length
  · obtain ⟨go, yd⟩ := y1 xs[i] (List.getElem?_eq_getElem hlt)
    rw [List.drop_eq_getElem_cons hlt] at p2
    refine .inr ⟨go, fun H' => ∃ g3 M3 acc accV, g1.le g3 ∧ StS S.K g3 ((D, .lst accV) :: F) (L2.wipe σ own) H' (wipeA δ own) M3 ∧ RepL S.K g3 acc accV ∧ PoE S W F σ δ g3 ((lcL t c e (wipeA δ own) (xs.drop (i + 1)) acc M3).bind k) Q,
      fun H' ⟨g3, M3, acc, accV, e3, st3, rv3, p3⟩ => ⟨m - 1, by omega, g3, M3, acc, accV, e3, st3, rv3, by omega, p3⟩, fun v H3 hy => ?_⟩
    obtain ⟨g3, e3, st3, rp⟩ := yd v H3 hy
    have p3 := PoE.mono e3 p2
    unfold lcL at p3
    cases hput : t.put xs[i] (wipeA δ own) with
    | none => simp only [hput] at p3; exact p3.elim
    | some δ1 =>
      simp only [hput] at p3
      refine ⟨g3, _, _, M2, xs[i], δ1, st3, rp, hput, fun σ4 s4 l4 k4 => ⟨?_, ?_⟩⟩
      · have h1 : L2.wipe σ4 own = L2.wipe (L2.wipe σ own) own := wipe_eq l4 fun j hj => k4 j fun z => hj (hid j z)
        have h2 : L2.wipe (L2.wipe σ own) own = L2.wipe σ own := wipe_eq (wipe_length σ own) fun j hj => wipe_at σ own j hj
        exact h1.trans h2
      · refine ⟨g3, _, δ1, M2, ⟨st3.m, s4⟩, ?_⟩
        cases hc : c δ1 M2 <;> simp only [hc] at p3
        · exact p3
        · rename_i b M3
          cases b <;> simp only at p3
          · exact fun g5 H5 e5 st5 => ⟨g5, M3, acc, accV, (e2.trans e3).trans e5, ⟨st5.m, sl.mono ((e2.trans e3).trans e5)⟩, rv.mono (e3.trans e5), PoE.mono e5 p3⟩
          · intro g5 H5 e5 st5
            refine ⟨g5, _, δ1, M3, st5, ?_⟩
            cases he : e δ1 M3 <;> simp only [he] at p3
            · exact p3
            · rename_i y M4
              have p4 : acc.length < lim ∧ PoE S W F σ δ g3 ((lcL t c e (wipeA δ own) (xs.drop (i + 1)) (acc ++ [y]) M4).bind k) Q := by
                by_cases hz : acc.length < lim
                · rw [if_pos hz] at p3
                  exact ⟨hz, p3⟩
                · rw [if_neg hz] at p3
                  exact p3.elim
              intro g6 v6 H6 e6 st6 rp6
              obtain ⟨f1, f2, f3⟩ := st6.m.frame (D, .lst accV) List.mem_cons_self
              have rv6 := rv.mono ((e3.trans e5).trans e6)
              refine ⟨accV, f1, lim_lt (by rw [← rv.len]; exact p4.1), g6, M4, acc ++ [y], accV ++ [v6], (((e2.trans e3).trans e5).trans e6), ⟨st6.m.frSet hF, sl.mono (((e2.trans e3).trans e5).trans e6)⟩, rv6.app (.one rp6), PoE.mono (e5.trans e6) p4.2⟩
            · exact p3.elim
        · exact p3.elim
  · have hd : xs.drop i = [] := List.drop_of_length_le (by omega)
    rw [hd] at p2
    exact .inl ⟨y2 (by omega), hend g2 F σ δ D acc accV H2 M2 Q hF st2.m (st1.s.mono e2) rv p2⟩
theorem end_frz {S : Sy} {W : WX} (g' : Gh) (F : Fm) (σ : Sg) (δ : Sl) (D : Addr) (ys : List AV) (vs : List V) (H' : Hp) (M' : Mem) (Q : VK) (hF : ∀ q ∈ F, q.1 ≠ D) (st : StM S.K g' ((D, .lst vs) :: F) H' M') (sl : Slots S.K g' σ δ) (rv : RepL S.K g' ys vs)
    (p : PoE S W F σ δ g' (.ok (.lst ys) M') Q) : Q (.ref D) H' := by
  obtain ⟨e, st2⟩ := st.frFrz hF
  exact p _ _ _ e ⟨st2, sl.mono e⟩ ⟨D, vs, rfl, upd_same, rv.mono e⟩
theorem end_new {S : Sy} {W : WX} (g' : Gh) (F : Fm) (σ : Sg) (δ : Sl) (D : Addr) (ys : List AV) (vs : List V) (H' : Hp) (M' : Mem) (Q : VK) (hF : ∀ q ∈ F, q.1 ≠ D) (st : StM S.K g' ((D, .lst vs) :: F) H' M') (sl : Slots S.K g' σ δ) (rv : RepL S.K g' ys vs)
    (p : PoE S W F σ δ g' (.ok (.ptr M'.length) (M' ++ [.lst ys])) Q) : Q (.ref D) H' := by
  obtain ⟨q1, q2, q3⟩ := st.frame (D, .lst vs) List.mem_cons_self
  obtain ⟨e, st2⟩ := st.frNew (c := .lst ys) hF ⟨q2, vs, q1, rv.mono Gh.le_add⟩
  refine p _ _ _ e ⟨st2, sl.mono e⟩ ⟨D, rfl, ?_⟩
  show (g'.ρ ++ [D])[M'.length]? = some D
  rw [List.getElem?_append_right (by rw [st.len]; exact Nat.le_refl _), st.len, Nat.sub_self]
  rfl
variable {elt tg iter : Expr} {ifs : List Expr} {scope : Scope} {pos : Pos} {a : AI} {t : Tg} {c : AT} {e : AE}
theorem y_lc (own : List (Str × Nat)) (hc : X.calm = true) (hN : X.N.Nodup) (hi : PI X tg iter (tI S W a)) (ok : blkC X.N X.env.scope scope own = true)
    (hg : ∀ (s : Shared) (H : Hp) (C : Addr) (cl : List (Str × Addr)) (fp : List Addr), PG (X.blk s H scope (compEnvC scope cl C X.env) fp) tg (tG S t)) (ht : ∀ (s : Shared) (H : Hp) (C : Addr) (cl : List (Str × Addr)) (fp : List Addr), PTs (X.blk s H scope (compEnvC scope cl C X.env) fp) ifs (tTs S c))
    (he : ∀ (s : Shared) (H : Hp) (C : Addr) (cl : List (Str × Addr)) (fp : List Addr), PE (X.blk s H scope (compEnvC scope cl C X.env) fp) elt (tE S W0 e)) (hid : ∀ j ∈ t.ids, j ∈ own.map (·.2) := by decide) (hs : ∀ x, foldedSetIterable iter X.env x = pure x := by intro _; rfl) :
    PE X (.ListComp elt [⟨tg, iter, ifs, 0⟩] scope pos) (tE S W (aLc a (own.map (·.2)) t c e)) :=
  pe_imp (pe_lc hc hN hi (blkOk_by ok) hg ht he hs) (lc_core_y hid end_frz)
theorem y_lcN (own : List (Str × Nat)) (hc : X.calm = true) (hN : X.N.Nodup) (hi : PI X tg iter (tI S W a)) (ok : blkC X.N X.env.scope scope own = true)
    (hg : ∀ (s : Shared) (H : Hp) (C : Addr) (cl : List (Str × Addr)) (fp : List Addr), PG (X.blk s H scope (compEnvC scope cl C X.env) fp) tg (tG S t)) (ht : ∀ (s : Shared) (H : Hp) (C : Addr) (cl : List (Str × Addr)) (fp : List Addr), PTs (X.blk s H scope (compEnvC scope cl C X.env) fp) ifs (tTs S c))
    (he : ∀ (s : Shared) (H : Hp) (C : Addr) (cl : List (Str × Addr)) (fp : List Addr), PE (X.blk s H scope (compEnvC scope cl C X.env) fp) elt (tE S W0 e)) (hid : ∀ j ∈ t.ids, j ∈ own.map (·.2) := by decide) (hs : ∀ x, foldedSetIterable iter X.env x = pure x := by intro _; rfl) :
    PE X (.ListComp elt [⟨tg, iter, ifs, 0⟩] scope pos) (tE S W (aLcN a (own.map (·.2)) t c e)) :=
  pe_imp (pe_lc hc hN hi (blkOk_by ok) hg ht he hs) (lc_core_y hid end_new)
theorem tAsg_of {te : TE} {ea : AE} (h : ∀ σ H Q, tE S W ea σ H Q → te σ H Q) (i : Nat) : ∀ D σ H, tS S W (aSet i ea) D σ H → tAsg te (gName i) D σ H := fun D σ H ⟨g, F, δ, M, st, p⟩ =>
  h σ H _ ⟨g, F, δ, M, st, thenE p fun g1 x M1 v H1 e1 st1 r1 p1 => p1 g1 _ H1 (.refl g1) ⟨st1.m, st1.s.set r1⟩⟩
theorem ys_setLc (i : Nat) {y : Str} {py spos : Pos} (own : List (Str × Nat)) (hc : X.calm = true) (hN : X.N.Nodup) (hi : PI X tg iter (tI S W a)) (ok : blkC X.N X.env.scope scope own = true)
    (hg : ∀ (s : Shared) (H : Hp) (C : Addr) (cl : List (Str × Addr)) (fp : List Addr), PG (X.blk s H scope (compEnvC scope cl C X.env) fp) tg (tG S t)) (ht : ∀ (s : Shared) (H : Hp) (C : Addr) (cl : List (Str × Addr)) (fp : List Addr), PTs (X.blk s H scope (compEnvC scope cl C X.env) fp) ifs (tTs S c))
    (he : ∀ (s : Shared) (H : Hp) (C : Addr) (cl : List (Str × Addr)) (fp : List Addr), PE (X.blk s H scope (compEnvC scope cl C X.env) fp) elt (tE S W0 e))
    (hsw : swapsWith (.ListComp elt [⟨tg, iter, ifs, 0⟩] scope pos) (some (.Name y py)) spos.line X.env = pure true) (hy : X.N[i]? = some y := by rfl) (hyl : X.env.scope.names.lookup y = some .local := by rfl)
    (hid : ∀ j ∈ t.ids, j ∈ own.map (·.2) := by decide) (hs : ∀ x, foldedSetIterable iter X.env x = pure x := by intro _; rfl) :
    PS X (.Assign [.Name y py] (.ListComp elt [⟨tg, iter, ifs, 0⟩] scope pos) spos) (tS S W (aSet i (aLc a (own.map (·.2)) t c e))) :=
  ps_imp (ps_setLc hc hN hy hyl hsw hi (blkOk_by ok) hg ht he hs) (tAsg_of (lc_core_y hid end_frz) i)
theorem ys_setLcN (i : Nat) {y : Str} {py spos : Pos} (own : List (Str × Nat)) (hc : X.calm = true) (hN : X.N.Nodup) (hi : PI X tg iter (tI S W a)) (ok : blkC X.N X.env.scope scope own = true)
    (hg : ∀ (s : Shared) (H : Hp) (C : Addr) (cl : List (Str × Addr)) (fp : List Addr), PG (X.blk s H scope (compEnvC scope cl C X.env) fp) tg (tG S t)) (ht : ∀ (s : Shared) (H : Hp) (C : Addr) (cl : List (Str × Addr)) (fp : List Addr), PTs (X.blk s H scope (compEnvC scope cl C X.env) fp) ifs (tTs S c))
    (he : ∀ (s : Shared) (H : Hp) (C : Addr) (cl : List (Str × Addr)) (fp : List Addr), PE (X.blk s H scope (compEnvC scope cl C X.env) fp) elt (tE S W0 e))
    (hsw : swapsWith (.ListComp elt [⟨tg, iter, ifs, 0⟩] scope pos) (some (.Name y py)) spos.line X.env = pure true) (hy : X.N[i]? = some y := by rfl) (hyl : X.env.scope.names.lookup y = some .local := by rfl)
    (hid : ∀ j ∈ t.ids, j ∈ own.map (·.2) := by decide) (hs : ∀ x, foldedSetIterable iter X.env x = pure x := by intro _; rfl) :
    PS X (.Assign [.Name y py] (.ListComp elt [⟨tg, iter, ifs, 0⟩] scope pos) spos) (tS S W (aSet i (aLcN a (own.map (·.2)) t c e))) :=
  ps_imp (ps_setLc hc hN hy hyl hsw hi (blkOk_by ok) hg ht he hs) (tAsg_of (lc_core_y hid end_new) i)
end
end Yk
/-! Functions and their calls. -/
namespace Yk
open PySem PySem.Spec L2
/-- room, and no representation is being made -/
structure Rg (k : Nat) (A : Around) : Prop where
  r : Room k A
  g : A.guards = some []
theorem Rg.le {j k : Nat} {A : Around} (h : Rg k A) (e : j ≤ k) : Rg j A := ⟨h.r.mono e, h.g⟩
theorem Rg.down {k : Nat} {A : Around} (h : Rg (k + 1) A) (env : Env) : Rg k (A.deeper env) := ⟨h.r.deeper env, h.g⟩
/-- a context in which the rules hold -/
structure Ok (X : Cx) (S : Sy) (W : WX) (k : Nat) : Prop where
  K : X.K = S.K
  calm : X.calm = true
  nd : X.N.Nodup
  tk : Takes X W
  po : PassesOwn (model X.prog X.w) X.A X.env X.xe
  rm : Rg k X.A
theorem no_takes {X : Cx} : Takes X W0 := fun _ _ x => by
  obtain ⟨_, _, _, _, _, _, _, _, _, _, _, _, _, _, _, _, z⟩ := x
  exact z.elim
theorem Ok.blk {X : Cx} {S : Sy} {W : WX} {k : Nat} (G : Ok X S W k) (s : Shared) (H : Hp) (scope : Scope) (env : Env) (fp : List Addr) : Ok (X.blk s H scope env fp) S W0 k :=
  ⟨G.K, G.calm, G.nd, no_takes, PassesOwn.never, G.rm⟩
abbrev AF := List AV → Mem → Res AV
def PoF (S : Sy) (E : XK) (F : Fm) (g : Gh) (r : Res AV) (Q : VK) : Prop := match r with
  | .bad => False
  | .ok x M => ∀ g' v H', g.le g' → StM S.K g' F H' M → Rep S.K g' x v → Q v H'
  | .exc x M => ∀ g' cls d H', g.le g' → StM S.K g' F H' M → ExR S g' F H' x cls d → E cls d H'
/-- the promise of a def: what it does to abstract values and the store -/
def spec (S : Sy) (n : Nat) (fn : AF) : Sp := fun vs H Q E => ∃ g F as M, StM S.K g F H M ∧ RepL S.K g as vs ∧ as.length = n ∧ PoF S E F g (fn as M) Q
structure FnG (P : Program) (w : World) (K : PySem.W.Frag) (mg : Str → Option Value) (base : Heap) (k : Nat) (f : Addr) (fd : FuncData) (ps : List Str) (sp : Sp) : Prop where
  len : ∀ vs H Q E, sp vs H Q E → vs.length = ps.length
  run : ∀ (A : Around) (outer : List Env) (s : Shared) (H : Hp) (args : Args) (us : List Value) (vs : List V) (Q : VK) (E : XK), Rg k A → Env0 P w K mg base A outer s H → BindsTo s fd args (ps.zip us) → Vals vs us → sp vs H Q E →
    codeAny (model P w) A (.call (.ref f) args) (CR (L2.CX P w) outer P w H s Q E) s
section
variable {P : Program} {w : World} {K : PySem.W.Frag} {mg : Str → Option Value} {base : Heap} {S : Sy}
theorem FnG.le {j k : Nat} {f : Addr} {fd : FuncData} {ps : List Str} {sp : Sp} (F : FnG P w K mg base j f fd ps sp) (h : j ≤ k) : FnG P w K mg base k f fd ps sp :=
  ⟨F.len, fun A outer s H args us vs Q E hr => F.run A outer s H args us vs Q E (hr.le h)⟩
theorem FnG.imp {k : Nat} {f : Addr} {fd : FuncData} {ps : List Str} {sp sp' : Sp} (F : FnG P w K mg base k f fd ps sp) (h : ∀ vs H Q E, sp' vs H Q E → sp vs H Q E) : FnG P w K mg base k f fd ps sp' :=
  ⟨fun vs H Q E q => F.len vs H Q E (h _ _ _ _ q), fun A outer s H args us vs Q E hr he hb hv hs => F.run A outer s H args us vs Q E hr he hb hv (h _ _ _ _ hs)⟩
def outF : SRes → Res AV
  | .nx _ M => .ok .non M
  | .rt x M => .ok x M
  | .exc x _ M => .exc x M
  | _ => .bad
def runF (m : Nat) (b : AS) : AF := fun as M => outF (b (as.map some ++ List.replicate (m - as.length) none) M)
theorem slots_start {g : Gh} {as : List AV} {vs : List V} (r : RepL K g as vs) (N : List Str) : Slots K g (L2.start N vs) (as.map some ++ List.replicate (N.length - as.length) none) := by
  have hl := r.len
  unfold L2.start
  refine ⟨by simp [hl], fun i x q => ?_⟩
  by_cases hi : i < as.length
  · rw [List.getElem?_append_left (by simpa using hi), List.getElem?_map] at q
    cases e : as[i]? with
    | none => rw [e] at q; cases q
    | some y =>
      rw [e] at q
      cases q
      obtain ⟨v, h1, h2⟩ := r.get e
      refine ⟨v, ?_, h2⟩
      rw [List.getElem?_append_left (by simpa [← hl] using hi), List.getElem?_map, h1]
      rfl
  · rw [List.getElem?_append_right (by simpa using hi), List.getElem?_replicate] at q
    split at q <;> cases q
/-- a def of the text, by its body -/
theorem fn_y {x qual : Str} {st : Stmt} {f : Addr} {fd : FuncData} {N ps : List Str} {k : Nat} {b : AS} (F : Fun K x qual st f fd) (hK : K = S.K) (Sc : FnScope N ps (defScope st))
    (hb : ∀ (X : Cx) (E : XK), Ok X S (fun cls d _ H => E cls d H) k → X.prog = P → X.w = w → X.K = K → X.mg = mg → X.base = base → X.N = N → (∃ cdv A outer s H, X = cxOf (L2.CX P w) P w K mg base N qual (defScope st) f cdv A outer s H E) → PSs X (defBody st) (tS S (fun cls d _ H => E cls d H) b)) :
    FnG P w K mg base (k + 1) f fd ps (spec S ps.length (runF N.length b)) := by
  obtain ⟨oc, od, kV, doc, pm, an, cdv, ct, osl, rfl, lk, hcd⟩ := F.ex
  refine ⟨fun vs H Q E h => ?_, fun A outer s H args us vs Q E hr e0 hbi r hsp => ?_⟩
  · obtain ⟨g, F, as, M, st, ra, hl, _⟩ := h
    rw [← ra.len, hl]
  obtain ⟨g, Fm, as, M, sm, ra, hla, p⟩ := hsp
  have hl : vs.length = ps.length := by rw [← ra.len, hla]
  have KX : K.In s.heap := e0.mod.kin.keeps fun b o e => (e0.bs b o e).1
  have lim : s.heap.NoLimit := e0.mod.nolimit.keeps fun b o e => (e0.bs b o e).1
  have kinds : ∀ y ∈ ps.zip us, (defScope st).names.lookup y.1 = some .local ∨ ((defScope st).names.lookup y.1 = some .cell ∧ ((cellsFrom (s.heap.objs.size + 1) (defScope st).names []).lookup y.1).isSome = true) := fun ⟨n, v⟩ hy => by
    rcases Sc.par n (List.of_mem_zip hy).1 with q | q
    · exact .inl q
    · exact .inr ⟨q, PySem.W.cellsFrom_some _ _ _ (.inl q)⟩
  refine codeAny_call_function hr.r.depth (KX _ _ lk) rfl Sc.co Sc.gen rfl (PySem.W.codeRec_of KX hcd) (hbi _ _ _ _ ?_)
  refine wpAny_newFunctionEnv_cells Sc.kind kinds fun env he s1 x1 => ?_
  subst he
  refine ⟨lim.keeps x1.toInCall.keep, codeAny_func ?_⟩
  have G : Ok (cxOf (L2.CX P w) P w K mg base N qual (defScope st) f cdv A outer s H E) S (fun cls d _ H => E cls d H) k :=
    ⟨hK, rfl, Sc.nd, takes_of rfl rfl rfl rfl, passes_of rfl, hr.down _⟩
  have ht := hb _ E G rfl rfl rfl rfl rfl rfl ⟨cdv, A, outer, s, H, rfl⟩
  have I : Inv (cxOf (L2.CX P w) P w K mg base N qual (defScope st) f cdv A outer s H E) [] (L2.start N vs) H s1 := inv_start Sc hr.r.hd e0 hl r x1
  have sl := slots_start (hK ▸ ra : RepL K g as vs) N
  have q0 : tS S (fun cls d _ H => E cls d H) b { nx := fun _ H' => Q .non H', rt := Q } (L2.start N vs) H := by
    refine ⟨g, Fm, _, M, ⟨sm, hK ▸ sl⟩, ?_⟩
    have p' : PoF S E Fm g (outF (b (as.map some ++ List.replicate (N.length - as.length) none) M)) Q := p
    cases e : b (as.map some ++ List.replicate (N.length - as.length) none) M <;> rw [e] at p'
    · exact p'.elim
    · exact fun g' σ' H' e1 st1 => p' g' _ H' e1 st1.m rfl
    · exact fun g' v H' e1 st1 rp => p' g' v H' e1 st1 rp
    · exact p'.elim
    · exact p'.elim
    · exact fun g' cls d σ' H' e1 st1 ex => p' g' cls d H' e1 st1.m ex
  refine wpAny_mono (ht.run [] s1 (L2.start N vs) H _ I q0) (fun fl s' hs => ?_) fun e s' hs => hs
  have fin : ∀ {σ' : Sg} {H' : Hp} {v : V} {u : Value}, Inv (cxOf (L2.CX P w) P w K mg base N qual (defScope st) f cdv A outer s H E) [] σ' H' s' → RelV v u → Q v H' → CE outer P w H s Q u s' :=
    fun {σ' H' v u} J rv q => ⟨v, H', J.os, J.bare, J.base, J.hok, rv, q⟩
  cases fl with
  | ret u =>
    obtain ⟨v, σ', H', J, rv, q⟩ := hs
    exact fin J rv q
  | next =>
    obtain ⟨σ', H', J, q⟩ := hs
    exact fin (v := V.non) (u := Value.none) J rfl q
  | brk =>
    obtain ⟨_, _, _, q⟩ := hs
    exact False.elim q
  | cont =>
    obtain ⟨_, _, _, q⟩ := hs
    exact False.elim q
end
/-! ### a cleaner promise: what a def has made for itself is forgotten -/
mutual
def AV.cl (m : Nat) : AV → Bool
  | .tup xs => AV.cls m xs
  | .lst xs => AV.cls m xs
  | .ptr l => decide (l < m)
  | _ => true
def AV.cls (m : Nat) : List AV → Bool
  | [] => true
  | x :: xs => AV.cl m x && AV.cls m xs
end
def clF (m : Nat) : List (Str × AV) → Bool
  | [] => true
  | (_, x) :: xs => AV.cl m x && clF m xs
def MO.cl (m : Nat) : MO → Bool
  | .dead => true
  | .lst xs => AV.cls m xs
  | .ins _ fs => clF m fs
structure Cl (M M' : Mem) : Prop where
  len : M.length ≤ M'.length
  old : ∀ (l : Nat) (c : MO), M'[l]? = some c → M[l]? = some c ∨ c.cl M'.length = true
theorem Cl.refl (M : Mem) : Cl M M := ⟨Nat.le_refl _, fun l c h => .inl h⟩
theorem Cl.set {M : Mem} {l : Nat} {c : MO} (hc : c.cl M.length = true) : Cl M (M.set l c) := ⟨by rw [List.length_set]; exact Nat.le_refl _, fun j d h => by
  by_cases hj : l = j
  · subst hj
    rw [List.length_set]
    by_cases hl : l < M.length
    · rw [List.getElem?_set_self hl] at h
      cases h
      exact .inr hc
    · rw [List.getElem?_eq_none (by rw [List.length_set]; omega)] at h
      cases h
  · rw [List.getElem?_set_ne hj] at h
    exact .inl h⟩
inductive Cln (M : Mem) : Res AV → Res AV → Prop
  | bad {r : Res AV} : Cln M r .bad
  | ok {x : AV} {M' G : Mem} (h : Cl M M') (hx : x.cl M'.length = true) : Cln M (.ok x (M' ++ G)) (.ok x M')
  | exc {x : AX} {M' G : Mem} (h : Cl M M') (hx : ∀ a, x.arg = some a → a.cl M'.length = true) : Cln M (.exc x (M' ++ G)) (.exc x M')
theorem Cln.same {M : Mem} {r : Res AV} {x : AV} {M' : Mem} (e : r = .ok x M') (h : Cl M M') (hx : x.cl M'.length = true) : Cln M r (.ok x M') := by
  rw [e]
  have := Cln.ok (G := []) h hx
  rwa [List.append_nil] at this
section
variable {K : PySem.W.Frag} {I : Hp} {ρ : List Addr}
mutual
theorem Rep.cut {m : Nat} (hm : m ≤ ρ.length) : ∀ {x : AV} {v : V}, x.cl m = true → Rep K ⟨I, ρ⟩ x v → Rep K ⟨I, ρ.take m⟩ x v
  | .non, _, _, h => h
  | .bl _, _, _, h => h
  | .int _, _, _, h => h
  | .str _, _, _, h => h
  | .tup xs, _, c, h => by
    obtain ⟨a, vs, q1, q2, q3⟩ := h
    exact ⟨a, vs, q1, q2, RepL.cut hm c q3⟩
  | .lst xs, _, c, h => by
    obtain ⟨a, vs, q1, q2, q3⟩ := h
    exact ⟨a, vs, q1, q2, RepL.cut hm c q3⟩
  | .ptr l, _, c, h => by
    obtain ⟨a, q1, q2⟩ := h
    have hl : l < m := of_decide_eq_true c
    refine ⟨a, q1, ?_⟩
    show (ρ.take m)[l]? = some a
    rw [List.getElem?_take_of_lt hl]
    exact q2
  | .scr _, _, _, h => h
  | .raw _, _, _, h => h
theorem RepL.cut {m : Nat} (hm : m ≤ ρ.length) : ∀ {xs : List AV} {vs : List V}, AV.cls m xs = true → RepL K ⟨I, ρ⟩ xs vs → RepL K ⟨I, ρ.take m⟩ xs vs
  | [], _, _, h => h
  | x :: xs, _, c, h => by
    obtain ⟨v, r, q1, q2, q3⟩ := h
    have c' : (AV.cl m x && AV.cls m xs) = true := c
    rw [Bool.and_eq_true] at c'
    exact ⟨v, r, q1, Rep.cut hm c'.1 q2, RepL.cut hm c'.2 q3⟩
end
theorem RepF.cut {m : Nat} (hm : m ≤ ρ.length) : ∀ {xs : List (Str × AV)} {vs : List (Str × V)}, clF m xs = true → RepF K ⟨I, ρ⟩ xs vs → RepF K ⟨I, ρ.take m⟩ xs vs
  | [], _, _, h => h
  | (f, x) :: xs, _, c, h => by
    obtain ⟨v, r, q1, q2, q3⟩ := h
    have c' : (AV.cl m x && clF m xs) = true := c
    rw [Bool.and_eq_true] at c'
    exact ⟨v, r, q1, Rep.cut hm c'.1 q2, RepF.cut hm c'.2 q3⟩
mutual
theorem Rep.closed {m : Nat} (hm : ρ.length ≤ m) : ∀ {x : AV} {v : V}, Rep K ⟨I, ρ⟩ x v → x.cl m = true
  | .non, _, h => rfl
  | .bl _, _, h => rfl
  | .int _, _, h => rfl
  | .str _, _, h => rfl
  | .tup xs, _, h => by
    obtain ⟨a, vs, q1, q2, q3⟩ := h
    exact RepL.closed hm q3
  | .lst xs, _, h => by
    obtain ⟨a, vs, q1, q2, q3⟩ := h
    exact RepL.closed hm q3
  | .ptr l, _, h => by
    obtain ⟨a, q1, q2⟩ := h
    have := (List.getElem?_eq_some_iff.mp q2).1
    exact decide_eq_true (Nat.lt_of_lt_of_le this hm)
  | .scr _, _, h => rfl
  | .raw _, _, h => rfl
theorem RepL.closed {m : Nat} (hm : ρ.length ≤ m) : ∀ {xs : List AV} {vs : List V}, RepL K ⟨I, ρ⟩ xs vs → AV.cls m xs = true
  | [], _, h => rfl
  | x :: xs, _, h => by
    obtain ⟨v, r, q1, q2, q3⟩ := h
    show (AV.cl m x && AV.cls m xs) = true
    rw [Rep.closed hm q2, RepL.closed hm q3]
    rfl
end
theorem RepF.closed {m : Nat} (hm : ρ.length ≤ m) : ∀ {xs : List (Str × AV)} {vs : List (Str × V)}, RepF K ⟨I, ρ⟩ xs vs → clF m xs = true
  | [], _, h => rfl
  | (f, x) :: xs, _, h => by
    obtain ⟨v, r, q1, q2, q3⟩ := h
    show (AV.cl m x && clF m xs) = true
    rw [Rep.closed hm q2, RepF.closed hm q3]
    rfl
theorem MOk.cut {m : Nat} {H : Hp} {a : Addr} (hm : m ≤ ρ.length) : ∀ {c : MO}, c.cl m = true → MOk K ⟨I, ρ⟩ H a c → MOk K ⟨I, ρ.take m⟩ H a c
  | .dead, _, h => h
  | .lst xs, c, h => by
    obtain ⟨z, vs, q, r⟩ := h
    exact ⟨z, vs, q, r.cut hm c⟩
  | .ins C fs, c, h => by
    obtain ⟨z, dx, vs, q, r⟩ := h
    exact ⟨z, dx, vs, q, r.cut hm c⟩
theorem MOk.closed {m : Nat} {H : Hp} {a : Addr} (hm : ρ.length ≤ m) : ∀ {c : MO}, MOk K ⟨I, ρ⟩ H a c → c.cl m = true
  | .dead, h => rfl
  | .lst xs, h => by
    obtain ⟨z, vs, q, r⟩ := h
    exact r.closed hm
  | .ins C fs, h => by
    obtain ⟨z, dx, vs, q, r⟩ := h
    exact r.closed hm
end
theorem StM.cut {K : PySem.W.Frag} {g g' : Gh} {F : Fm} {H H' : Hp} {M M' G : Mem} (h : StM K g F H M) (e : g.le g') (h' : StM K g' F H' (M' ++ G)) (c : Cl M M') : g.le ⟨g'.I, g'.ρ.take M'.length⟩ ∧ StM K ⟨g'.I, g'.ρ.take M'.length⟩ F H' M' := by
  have hm : M'.length ≤ g'.ρ.length := by
    rw [h'.len, List.length_append]
    omega
  have hl : (g'.ρ.take M'.length).length = M'.length := by
    rw [List.length_take]
    omega
  refine ⟨⟨e.same, ?_⟩, h'.sees, hl, h'.nd.sublist (List.take_sublist _ _), fun l d a hd ha => ?_, fun q hq => ?_⟩
  · obtain ⟨t, ht⟩ := e.pre
    show g.ρ <+: g'.ρ.take M'.length
    rw [← ht]
    refine List.prefix_iff_eq_take.mpr ?_
    rw [List.take_take, List.take_append_of_le_length (by have := h.len; have := c.len; omega), List.take_of_length_le (by have := h.len; have := c.len; omega)]
  · have hlt : l < M'.length := (List.getElem?_eq_some_iff.mp hd).1
    have ha' : g'.ρ[l]? = some a := by
      have z : (g'.ρ.take M'.length)[l]? = some a := ha
      rw [List.getElem?_take_of_lt hlt] at z
      exact z
    have k := h'.cells l d a (by rw [List.getElem?_append_left hlt]; exact hd) ha'
    have cd : d.cl M'.length = true := by
      rcases c.old l d hd with z | z
      · have hll : l < g.ρ.length := by
          rw [h.len]
          exact (List.getElem?_eq_some_iff.mp z).1
        have k0 := h.cells l d _ z (List.getElem?_eq_getElem hll)
        have e1 : g = ⟨g.I, g.ρ⟩ := rfl
        exact MOk.closed (by have := h.len; have := c.len; omega) k0
      · exact z
    exact MOk.cut hm cd k
  · obtain ⟨q1, q2, q3⟩ := h'.frame q hq
    exact ⟨q1, q2, fun z => q3 (List.mem_of_mem_take z)⟩
theorem spec_imp {S : Sy} {n : Nat} {fn fn' : AF} (h : ∀ as M, as.length = n → Cln M (fn as M) (fn' as M)) : ∀ vs H Q E, spec S n fn' vs H Q E → spec S n fn vs H Q E := by
  rintro vs H Q E ⟨g, F, as, M, st, ra, hl, p⟩
  refine ⟨g, F, as, M, st, ra, hl, ?_⟩
  have c := h as M hl
  revert p c
  generalize fn as M = r1
  generalize fn' as M = r2
  intro p c
  cases c with
  | bad => exact p.elim
  | ok hc hx =>
    intro g2 v H2 e2 st2 rp
    obtain ⟨e3, st3⟩ := st.cut e2 st2 hc
    exact p _ v H2 e3 st3 (rp.cut (by rw [st2.len, List.length_append]; omega) hx)
  | @exc x M' G hc hx =>
    intro g2 cls d H2 e2 st2 ex
    obtain ⟨e3, st3⟩ := st.cut e2 st2 hc
    refine p _ cls d H2 e3 st3 ?_
    obtain ⟨x1, x2⟩ := ex
    refine ⟨x1, ?_⟩
    revert x2
    cases hxa : x.arg with
    | none => exact id
    | some a =>
      rintro ⟨dd, f, v, q1, q2, q3, q4, q5, q6⟩
      exact ⟨dd, f, v, q1, q2, q3, q4.cut (by rw [st2.len, List.length_append]; omega) (hx a hxa), q5, fun z => q6 (List.mem_of_mem_take z)⟩
/-! ### calls -/
/-- a def that stands at the module's name x -/
def Def (P : Program) (w : World) (K : PySem.W.Frag) (mg : Str → Option Value) (base : Heap) (S : Sy) (x : Str) (j n : Nat) (fn : AF) : Prop :=
  ∃ f fd ps, mg x = some (.ref f) ∧ PySem.W.keepIn K (.ref f) = true ∧ Binds K fd ps [] ∧ FnG P w K mg base j f fd ps (spec S n fn)
/-- .. called by keywords alone: ks their order, gV: the parameters' order of their values -/
def DefK (P : Program) (w : World) (K : PySem.W.Frag) (mg : Str → Option Value) (base : Heap) (S : Sy) (x : Str) (j n : Nat) (fn : AF) (ks : List Str) (ix : List Nat) : Prop :=
  ∃ f fd ps, mg x = some (.ref f) ∧ PySem.W.keepIn K (.ref f) = true ∧ (∀ (s : Shared) (ws : List Value), K.In s.heap → ws.length = ks.length → BindsTo s fd ⟨[], ks.zip ws⟩ (ps.zip (ix.filterMap fun i => ws[i]?))) ∧ ps.length = n ∧ FnG P w K mg base j f fd ps (spec S n fn)
def aFn (n : Nat) (fn : AF) (a : AA) : AE := fun δ M => (a δ M).bind fun as M1 => if as.length = n then fn as M1 else .bad
theorem RepL.pick {K : PySem.W.Frag} {g : Gh} {xs : List AV} {vs : List V} (h : RepL K g xs vs) : ∀ ix : List Nat, RepL K g (ix.filterMap fun i => xs[i]?) (ix.filterMap fun i => vs[i]?)
  | [] => rfl
  | i :: ix => by
    rw [List.filterMap_cons, List.filterMap_cons]
    cases e : xs[i]? with
    | none =>
      have : vs[i]? = none := by
        rw [List.getElem?_eq_none_iff] at e ⊢
        rw [← h.len]
        exact e
      rw [this]
      exact RepL.pick h ix
    | some y =>
      obtain ⟨v, h1, h2⟩ := h.get e
      rw [h1]
      exact ⟨v, _, rfl, h2, RepL.pick h ix⟩
theorem vals_pick {vs : List V} {us : List Value} (h : Vals vs us) : ∀ ix : List Nat, Vals (ix.filterMap fun i => vs[i]?) (ix.filterMap fun i => us[i]?)
  | [] => .nil
  | i :: ix => by
    rw [List.filterMap_cons, List.filterMap_cons]
    cases e : vs[i]? with
    | none =>
      rw [h.none_of e]
      exact vals_pick h ix
    | some y =>
      obtain ⟨v, h1, h2⟩ := h.get e
      rw [h1]
      exact .cons h2 (vals_pick h ix)
/-- .. by keywords -/
def aFnK (n : Nat) (fn : AF) (m : Nat) (ix : List Nat) (a : AA) : AE := fun δ M => (a δ M).bind fun as M1 => if as.length = m then (if (ix.filterMap fun i => as[i]?).length = n then fn (ix.filterMap fun i => as[i]?) M1 else .bad) else .bad
section
variable {X : Cx} {S : Sy} {W : WX} {k j n : Nat} {fn : AF} {x : Str} {p pos : Pos} {e : Expr} {es : List Expr} {a : AA} {kws : List Keyword}
theorem po_call {f : Addr} {fd : FuncData} {ps : List Str} {args : Args} {us : List Value} {vs : List V} {as : List AV} {pins : List (Addr × Obj)} {σ : Sg} {H : Hp} {s : Shared} {Q : VK} {g : Gh} {F : Fm} {δ : Sl} {M : Mem} (G : Ok X S W k) (hF : FnG X.prog X.w X.K X.mg X.base j f fd ps (spec S n fn)) (hj : j ≤ k)
    (I : Inv X pins σ H s) (st : StS S.K g F σ H δ M) (ra : RepL S.K g as vs) (rv : Vals vs us) (hl : as.length = n) (hb : BindsTo s fd args (ps.zip us)) (q : PoE S W F σ δ g (fn as M) Q) :
    codeAny (model X.prog X.w) X.A (.call (.ref f) args) (fun r s' => match r with | .ok (.ret u) => EP X pins σ Q u s' | .ok _ => False | .error e => X.xe e s') s := by
  have hsp : spec S n fn vs H Q (fun cls d H' => W cls d σ H') := by
    refine ⟨g, F, as, M, st.m, ra, hl, ?_⟩
    revert q
    cases fn as M with
    | bad => exact id
    | ok x M' => exact fun q g' v H' e1 st1 rp => q g' v H' e1 ⟨st1, st.s.mono e1⟩ rp
    | exc x M' => exact fun q g' c d H' e1 st1 ex => q g' c d H' e1 ⟨st1, st.s.mono e1⟩ ex
  refine codeAny_mono (hF.run X.A X.stack s H args us vs Q _ (G.rm.le hj) I.env0 hb rv hsp) fun r s' hq => ?_
  cases r with
  | error e => exact G.tk _ _ (XE.of_call I (fun _ _ _ h => h) hq)
  | ok fl =>
    cases fl with
    | ret u => exact I.after hq
    | next => exact False.elim hq
    | brk => exact False.elim hq
    | cont => exact False.elim hq
theorem y_call (G : Ok X S W k) (d : Def X.prog X.w X.K X.mg X.base S x j n fn) (hj : j ≤ k) (ha : PA X (e :: es) (tA S W a)) (hg : Gl X x := by rfl) (hdb : (x == ("__debug__" : Str)) = false := by decide)
    (he : starEach (e :: es) X.env = (false, eval e X.env) :: starEach es X.env := by rfl) (hpl : (backTo pos (starEach es X.env)).any (·.1) = false := by rfl) : PE X (.Call (.Name x p) (e :: es) [] pos) (tE S W (aFn n fn a)) := by
  obtain ⟨f, fd, ps, hm, hk, hb, hF⟩ := d
  refine ⟨fun pins s σ H Q I ⟨g, F, δ, M, st, q⟩ => ?_⟩
  refine wpAny_Call_Name_kw (ld_glob I hg hm ?_ hdb)
  have qa : tA S W a σ H (fun vs H1 => ∃ g1 as M1, StS S.K g1 F σ H1 δ M1 ∧ RepL S.K g1 as vs ∧ as.length = n ∧ PoE S W F σ δ g1 (fn as M1) Q) := ⟨g, F, δ, M, st, bindAE q fun g1 as M1 vs H1 e1 st1 r1 p1 => by
    obtain ⟨hl, p2⟩ := ifok (P := fun r => PoE S W F σ δ g1 r Q) id p1
    exact ⟨g1, as, M1, st1, r1, hl, p2⟩⟩
  refine PySem.W.callWith_K (h₀ := X.base) I.ok.mod.kin hk (thn (ha.run pos pins s σ H _ I qa) fun us s1 ⟨vs, H1, I1, r, g1, as, M1, st1, r1, hl, p2⟩ => ⟨I1.kIn, ?_⟩) he hpl
  have hl2 : us.length = ps.length := by
    rw [← r.length]
    exact hF.len vs H1 Q (fun c d H' => W c d σ H') ⟨g1, F, as, M1, st1.m, r1, hl, by
      revert p2
      cases fn as M1 with
      | bad => exact id
      | ok x M' => exact fun q g' v H' e1 st' rp => q g' v H' e1 ⟨st', st1.s.mono e1⟩ rp
      | exc x M' => exact fun q g' c d H' e1 st' ex => q g' c d H' e1 ⟨st', st1.s.mono e1⟩ ex⟩
  have bt := hb s1 us I1.kIn (by rw [List.append_nil]; exact hl2)
  rw [List.append_nil] at bt
  refine wpAny_call (codeAny_mono (po_call (args := ⟨us, []⟩) G hF hj I1 st1 r1 r hl bt p2) fun r s' hq => ?_)
  cases r with
  | error e => exact hq
  | ok fl => cases fl <;> exact hq
theorem y_callK {ks : List Str} {ix : List Nat} (G : Ok X S W k) (d : DefK X.prog X.w X.K X.mg X.base S x j n fn ks ix) (hj : j ≤ k) (ha : PK X kws (tA S W a)) (hall : (backToKw pos (keywordEach kws X.env)).all (·.1.isSome) = true := by rfl) (hks : (backToKw pos (keywordEach kws X.env)).filterMap (·.1) = ks := by rfl)
    (hg : Gl X x := by rfl) (hdb : (x == ("__debug__" : Str)) = false := by decide) (hpl : ((backTo pos (starEach [] X.env)).any (·.1) || (backToKw pos (keywordEach kws X.env)).any (·.1.isNone)) = false := by rfl) :
    PE X (.Call (.Name x p) [] kws pos) (tE S W (aFnK n fn ks.length ix a)) := by
  obtain ⟨f, fd, ps, hm, hk, hb, hps, hF⟩ := d
  refine ⟨fun pins s σ H Q I ⟨g, F, δ, M, st, q⟩ => ?_⟩
  refine wpAny_Call_Name_kw (ld_glob I hg hm ?_ hdb)
  have qa : tA S W a σ H (fun vs H1 => ∃ g1 as M1, StS S.K g1 F σ H1 δ M1 ∧ RepL S.K g1 as vs ∧ as.length = ks.length ∧ (ix.filterMap fun i => as[i]?).length = n ∧ PoE S W F σ δ g1 (fn (ix.filterMap fun i => as[i]?) M1) Q) := ⟨g, F, δ, M, st, bindAE q fun g1 as M1 vs H1 e1 st1 r1 p1 => by
    obtain ⟨hl, p2⟩ := ifok (P := fun r => PoE S W F σ δ g1 r Q) id p1
    obtain ⟨hl2, p3⟩ := ifok (P := fun r => PoE S W F σ δ g1 r Q) id p2
    exact ⟨g1, as, M1, st1, r1, hl, hl2, p3⟩⟩
  refine PySem.W.callWith_KW0 (h₀ := X.base) I.ok.mod.kin hk hall ?_ hpl
  refine thn (ha.run pos pins s σ H _ I qa) fun ws s1 ⟨vs, H1, I1, r, g1, as, M1, st1, r1, hl, hl2, p2⟩ => ⟨I1.kIn, ?_⟩
  rw [hks]
  have bt := hb s1 ws I1.kIn (by rw [← r.length, ← r1.len, hl])
  refine wpAny_call (codeAny_mono (po_call (args := ⟨[], ks.zip ws⟩) G hF hj I1 st1 (r1.pick ix) (vals_pick r ix) hl2 bt p2) fun r s' hq => ?_)
  cases r with
  | error e => exact hq
  | ok fl => cases fl <;> exact hq
theorem yk_nil : PK X [] (tA S W aNil) := ⟨fun pos pins s σ H Q I h => pk_nil.run pos pins s σ H Q I (by
  obtain ⟨g, F, δ, M, st, p⟩ := h
  exact p g [] H (.refl g) st rfl)⟩
theorem yk_cons {nm : Option Str} {kpos : Pos} {b : AE} (ha : PE X e (tE S W b)) (hr : PK X kws (tA S W a)) : PK X (⟨nm, e, kpos⟩ :: kws) (tA S W (aCons b a)) := ⟨fun pos pins s σ H Q I h => (pk_cons ha hr).run pos pins s σ H Q I (by
  obtain ⟨g, F, δ, M, st, p⟩ := h
  refine ⟨g, F, δ, M, st, bindEA p fun g1 x M1 v H1 e1 st1 r1 p1 => ⟨g1, F, δ, M1, st1, ?_⟩⟩
  exact bindAA p1 fun g2 xs M2 vs H2 e2 st2 r2 p2 => p2 g2 (v :: vs) H2 (.refl g2) st2 ⟨v, vs, rfl, r1.mono e2, r2⟩)⟩
end
end Yk
/-! Operators, built-ins, methods. -/
namespace Yk
open PySem PySem.Spec L2
def OpJ (X : Cx) (S : Sy) (g : Value → Value → Sem Value) (f : AV → AV → Mem → Res AV) : Prop := ∃ r : R2, OpR X g r ∧ OpS S r f
section
variable {X : Cx} {S : Sy} {W : WX} {k : Nat}
theorem yo_bin {op : Operator} {f : AV → AV → Mem → Res AV} {a b : Expr} {ea eb : AE} {pos : Pos} (ho : OpJ X S (binaryOp op) f) (ha : PE X a (tE S W ea)) (hb : PE X b (tE S W eb)) : PE X (.BinOp a op b pos) (tE S W (aBin f ea eb)) := by
  obtain ⟨r, h1, h2⟩ := ho
  exact y_bin h1 h2 ha hb
theorem yo_cmp {op : CmpOp} {f : AV → AV → Mem → Res AV} {a b : Expr} {ea eb : AE} {pos : Pos} (ho : OpJ X S (compareOp op) f) (ha : PE X a (tE S W ea)) (hb : PE X b (tE S W eb)) (hm : behindInMarks op b = false := by first | exact nomark _ | rfl) : PE X (.Compare a [op] [b] pos) (tE S W (aBin f ea eb)) := by
  obtain ⟨r, h1, h2⟩ := ho
  exact y_cmp h1 h2 ha hb hm
theorem yo_tcmp {op : CmpOp} {f : AV → AV → Mem → Res AV} {a b : Expr} {ea eb : AE} {pos : Pos} (ho : OpJ X S (compareOp op) f) (ha : PE X a (tE S W ea)) (hb : PE X b (tE S W eb)) (hm : behindInMarks op b = false := by first | exact nomark _ | rfl) : PT X (.Compare a [op] [b] pos) (tT S W (aTest (aBin f ea eb))) := by
  obtain ⟨r, h1, h2⟩ := ho
  exact y_tcmp h1 h2 ha hb hm
theorem yo_chain {op op' : CmpOp} {f f' : AV → AV → Mem → Res AV} {a b c : Expr} {ea eb ec : AE} {pos : Pos} (ho : OpJ X S (compareOp op) f) (ho' : OpJ X S (compareOp op') f') (ha : PE X a (tE S W ea)) (hb : PE X b (tE S W eb)) (hc : PE X c (tE S W ec)) (hm : lastMarks [op, op'] [b, c] = false := by with_unfolding_all rfl) :
    PE X (.Compare a [op, op'] [b, c] pos) (tE S W (aChain f f' ea eb ec)) := by
  obtain ⟨r, h1, h2⟩ := ho
  obtain ⟨r', h1', h2'⟩ := ho'
  exact y_chain h1 h1' h2 h2' ha hb hc hm
theorem yo_tchain {op op' : CmpOp} {f f' : AV → AV → Mem → Res AV} {a b c : Expr} {ea eb ec : AE} {pos : Pos} (ho : OpJ X S (compareOp op) f) (ho' : OpJ X S (compareOp op') f') (ha : PE X a (tE S W ea)) (hb : PE X b (tE S W eb)) (hc : PE X c (tE S W ec)) (hm : lastMarks [op, op'] [b, c] = false := by with_unfolding_all rfl) :
    PT X (.Compare a [op, op'] [b, c] pos) (tT S W (aTest (aChain f f' ea eb ec))) := by
  obtain ⟨r, h1, h2⟩ := ho
  obtain ⟨r', h1', h2'⟩ := ho'
  exact y_tchain h1 h1' h2 h2' ha hb hc hm
/-! ### ints -/
open Classical in
noncomputable def fI (c : Int → Int → Prop) (g : Int → Int → AV) (x y : AV) (M : Mem) : Res AV := match x, y with
  | .int i, .int j => if c i j then .ok (g i j) M else .bad
  | _, _ => .bad
def yesI : Int → Int → Prop := fun _ _ => True
theorem opI_ok {gv : Value → Value → Sem Value} {C : Int → Int → Prop} {g : Int → Int → V} {c : Int → Int → Prop} {ga : Int → Int → AV} (h : OpR X gv (rI C g)) (hc : ∀ i j, c i j → C i j) (hg : ∀ i j, litV (ga i j) = some (g i j)) : OpJ X S gv (fI c ga) := by
  refine ⟨_, h, fun W g0 F σ H δ M x y v u Q st rx ry p => ?_⟩
  unfold fI at p
  split at p
  · obtain ⟨q, p2⟩ := ifok (P := fun r => PoE S W F σ δ g0 r Q) id p
    exact ⟨_, _, rx, ry, hc _ _ q, p2 g0 _ H (.refl g0) st (rep_lit (hg _ _))⟩
  · exact p.elim
theorem opI0_ok {gv : Value → Value → Sem Value} {g : Int → Int → V} {ga : Int → Int → AV} (h : OpR X gv (rI0 g)) (hg : ∀ i j, litV (ga i j) = some (g i j)) : OpJ X S gv (fI yesI ga) := by
  refine ⟨_, h, fun W g0 F σ H δ M x y v u Q st rx ry p => ?_⟩
  unfold fI at p
  split at p
  · obtain ⟨q, p2⟩ := ifok (P := fun r => PoE S W F σ δ g0 r Q) id p
    exact ⟨_, _, rx, ry, p2 g0 _ H (.refl g0) st (rep_lit (hg _ _))⟩
  · exact p.elim
noncomputable def fSub : AV → AV → Mem → Res AV := fI yesI fun i j => .int (i - j)
noncomputable def fLt : AV → AV → Mem → Res AV := fI yesI fun i j => .bl (decide (i < j))
noncomputable def fLe : AV → AV → Mem → Res AV := fI yesI fun i j => .bl (decide (i ≤ j))
noncomputable def fGt : AV → AV → Mem → Res AV := fI yesI fun i j => .bl (decide (j < i))
noncomputable def fGe : AV → AV → Mem → Res AV := fI yesI fun i j => .bl (decide (j ≤ i))
theorem jo_sub : OpJ X S (binaryOp .Sub) fSub := opI0_ok op_sub fun _ _ => rfl
theorem jo_lt : OpJ X S (compareOp .Lt) fLt := opI0_ok op_lt fun _ _ => rfl
theorem jo_le : OpJ X S (compareOp .LtE) fLe := opI0_ok op_le fun _ _ => rfl
theorem jo_gt : OpJ X S (compareOp .Gt) fGt := opI0_ok op_gt fun _ _ => rfl
theorem jo_ge : OpJ X S (compareOp .GtE) fGe := opI0_ok op_ge fun _ _ => rfl
def big (i : Int) : Prop := i.natAbs < 2 ^ 4096
theorem big_log {i : Int} (h : big i) : i.natAbs.log2 < 4096 := PySem.Flt.log2_lt_of (by decide) h
noncomputable def fMod : AV → AV → Mem → Res AV := fI (fun _ j => 0 < j) fun i j => .int (i % j)
noncomputable def fDiv : AV → AV → Mem → Res AV := fI (fun _ j => 0 < j ∧ big j) fun i j => .int (i / j)
theorem jo_mod : OpJ X S (binaryOp .Mod) fMod := opI_ok op_mod (fun i j h => h) fun _ _ => rfl
theorem jo_div : OpJ X S (binaryOp .FloorDiv) fDiv := opI_ok op_fdivW (fun i j h => ⟨h.1, Nat.lt_of_lt_of_le (big_log h.2) (by decide)⟩) fun _ _ => rfl
/-- a power, not too great -/
def powOk (i j : Int) : Prop := 0 ≤ j ∧ j ≤ 100 ∧ i.natAbs.log2 ≤ 1000000
noncomputable def fPow : AV → AV → Mem → Res AV := fI powOk fun i j => .int (i ^ j.toNat)
theorem jo_pow : OpJ X S (binaryOp .Pow) fPow := by
  refine ⟨rI powOk fun i j => .int (i ^ j.toNat), opI fun i j t u Q s E hc q => ?_, fun W g0 F σ H δ M x y v u Q st rx ry p => ?_⟩
  · obtain ⟨c1, c2, c3⟩ := hc
    refine PyProof.Rows.pow_int c1 ?_ q
    have hb : (Builtin.Int.intBits i : Int) ≤ 1000001 := by
      unfold Builtin.Int.intBits
      split <;> omega
    have : (Builtin.Int.intBits i : Int) * j ≤ 1000001 * 100 := Int.mul_le_mul hb c2 c1 (by decide)
    omega
  · unfold fPow fI at p
    split at p
    · obtain ⟨q, p2⟩ := ifok (P := fun r => PoE S W F σ δ g0 r Q) id p
      exact ⟨_, _, rx, ry, q, p2 g0 _ H (.refl g0) st rfl⟩
    · exact p.elim
/-! ### + and *, of ints and of lists -/
def fAdd (x y : AV) (M : Mem) : Res AV := match x, y with
  | .int i, .int j => .ok (.int (i + j)) M
  | .lst a, .lst b => if a.length + b.length ≤ lim then .ok (.lst (a ++ b)) M else .bad
  | .tup a, .tup b => if a.length + b.length ≤ lim then .ok (.tup (a ++ b)) M else .bad
  | _, _ => .bad
theorem jo_add : OpJ X S (binaryOp .Add) fAdd := by
  refine ⟨_, opR_or op_add (opR_or op_cat op_catA), fun W g0 F σ H δ M x y v u Q st rx ry p => ?_⟩
  unfold fAdd at p
  split at p
  · exact .inl ⟨_, _, rx, ry, p g0 _ H (.refl g0) st rfl⟩
  · obtain ⟨q, p2⟩ := ifok (P := fun r => PoE S W F σ δ g0 r Q) id p
    obtain ⟨a, vs, rfl, hI, rv⟩ := rx
    obtain ⟨b, us, rfl, hI', rv'⟩ := ry
    exact .inr (.inl ⟨a, b, vs, us, rfl, rfl, st.m.sees _ _ hI, st.m.sees _ _ hI', by rw [← rv.len, ← rv'.len]; exact lim_le q, new_frz st (rv.app rv') p2⟩)
  · obtain ⟨q, p2⟩ := ifok (P := fun r => PoE S W F σ δ g0 r Q) id p
    obtain ⟨a, vs, rfl, hI, rv⟩ := rx
    obtain ⟨b, us, rfl, hI', rv'⟩ := ry
    have e := rv.app rv'
    refine .inr (.inr ⟨a, b, vs, us, rfl, rfl, .inl (.inl (st.m.sees _ _ hI)), .inl (.inl (st.m.sees _ _ hI')), by rw [← rv.len, ← rv'.len]; exact lim_le q, fun z => ?_, fun _ z => ?_, fun _ _ => new_tup st e p2⟩)
    · subst z
      exact p2 g0 _ H (.refl g0) st ⟨b, us, rfl, hI', e⟩
    · subst z
      exact p2 g0 _ H (.refl g0) st ⟨a, vs, rfl, hI, by rw [List.append_nil] at e; exact e⟩
  · exact p.elim
open Classical in
noncomputable def fMul (x y : AV) (M : Mem) : Res AV := match x, y with
  | .int i, .int j => if big i ∧ big j then .ok (.int (i * j)) M else .bad
  | .lst a, .int j => if 0 ≤ j ∧ j ≤ 1000 ∧ a.length * j.toNat ≤ lim then .ok (.lst (List.replicate j.toNat a).flatten) M else .bad
  | _, _ => .bad
theorem jo_mul : OpJ X S (binaryOp .Mult) fMul := by
  refine ⟨_, opR_or op_mulW op_rep, fun W g0 F σ H δ M x y v u Q st rx ry p => ?_⟩
  unfold fMul at p
  split at p
  · obtain ⟨q, p2⟩ := ifok (P := fun r => PoE S W F σ δ g0 r Q) id p
    have h1 := big_log q.1
    have h2 := big_log q.2
    refine .inl ⟨_, _, rx, ry, ?_, p2 g0 _ H (.refl g0) st rfl⟩
    unfold CMulW
    omega
  · obtain ⟨⟨q1, q2, q3⟩, p2⟩ := ifok (P := fun r => PoE S W F σ δ g0 r Q) id p
    obtain ⟨a, vs, rfl, hI, rv⟩ := rx
    exact .inr ⟨a, _, vs, rfl, ry, st.m.sees _ _ hI, by omega, by omega, by rw [← rv.len]; exact lim_le q3, new_frz st (rv.flat _) p2⟩
  · exact p.elim
/-! ### data: ==, in -/
mutual
def toDp (p : Nat → Option PyData) : AV → Option PyData
  | .non => some .none
  | .bl b => some (.bool b)
  | .int i => some (.int i)
  | .str x => some (.str x)
  | .tup xs => (toDps p xs).map .tuple
  | .lst xs => (toDps p xs).map .list
  | .ptr l => p l
  | .scr _ => none
  | .raw _ => none
def toDps (p : Nat → Option PyData) : List AV → Option (List PyData)
  | [] => some []
  | x :: xs => match toDp p x, toDps p xs with
    | some d, some ds => some (d :: ds)
    | _, _ => none
end
def ptrD (M : Mem) : Nat → Nat → Option PyData
  | 0, _ => none
  | n + 1, l => match M[l]? with
    | some (.lst xs) => (toDps (ptrD M n) xs).map .list
    | _ => none
def toD (M : Mem) (x : AV) : Option PyData := toDp (ptrD M 3) x
section
variable {K : PySem.W.Frag} {g : Gh} {F : Fm} {H : Hp} {M : Mem}
mutual
theorem toDp_ok (sees : Same g.I H) {p : Nat → Option PyData} (hp : ∀ l d v, p l = some d → Rep K g (.ptr l) v → Dp K H v d) : ∀ {x : AV} {v : V} {d : PyData}, toDp p x = some d → Rep K g x v → Dp K H v d
  | .non, v, d, e, r => by
    cases e
    cases (show v = .non from r)
    exact .non
  | .bl b, v, d, e, r => by
    cases e
    cases (show v = .bl b from r)
    exact .bl b
  | .int i, v, d, e, r => by
    cases e
    cases (show v = .int i from r)
    exact .int i
  | .str x, v, d, e, r => by
    cases e
    cases (show v = .str x from r)
    exact .str x
  | .tup xs, v, d, e, r => by
    obtain ⟨a, vs, rfl, hI, rv⟩ := r
    have e' : (toDps p xs).map PyData.tuple = some d := e
    cases q : toDps p xs with
    | none => rw [q] at e'; cases e'
    | some ds =>
      rw [q] at e'
      cases e'
      exact .tup (.inl (.inl (sees _ _ hI))) (toDps_ok sees hp q rv)
  | .lst xs, v, d, e, r => by
    obtain ⟨a, vs, rfl, hI, rv⟩ := r
    have e' : (toDps p xs).map PyData.list = some d := e
    cases q : toDps p xs with
    | none => rw [q] at e'; cases e'
    | some ds =>
      rw [q] at e'
      cases e'
      exact .lst (.inl (.inl (sees _ _ hI))) (toDps_ok sees hp q rv)
  | .ptr l, v, d, e, r => hp l d v e r
  | .scr _, _, _, e, _ => by cases e
  | .raw _, _, _, e, _ => by cases e
theorem toDps_ok (sees : Same g.I H) {p : Nat → Option PyData} (hp : ∀ l d v, p l = some d → Rep K g (.ptr l) v → Dp K H v d) : ∀ {xs : List AV} {vs : List V} {ds : List PyData}, toDps p xs = some ds → RepL K g xs vs → DpAll K H vs ds
  | [], vs, ds, e, r => by
    cases e
    cases (show vs = [] from r)
    exact .nil
  | x :: xs, vs, ds, e, r => by
    obtain ⟨v, r', rfl, r1, r2⟩ := r
    have e' : (match toDp p x, toDps p xs with | some d, some ds => some (d :: ds) | _, _ => none) = some ds := e
    cases q1 : toDp p x with
    | none => simp only [q1] at e'; cases e'
    | some d =>
      cases q2 : toDps p xs with
      | none => simp only [q1, q2] at e'; cases e'
      | some ds' =>
        simp only [q1, q2] at e'
        cases e'
        exact .cons (toDp_ok sees hp q1 r1) (toDps_ok sees hp q2 r2)
end
theorem ptrD_ok (st : StM K g F H M) : ∀ (n l : Nat) (d : PyData) (v : V), ptrD M n l = some d → Rep K g (.ptr l) v → Dp K H v d
  | 0, _, _, _, e, _ => by cases e
  | n + 1, l, d, v, e, r => by
    obtain ⟨a, rfl, ha⟩ := r
    have e' : (match M[l]? with | some (.lst xs) => (toDps (ptrD M n) xs).map .list | _ => none) = some d := e
    cases hc : M[l]? with
    | none => simp only [hc] at e'; cases e'
    | some c =>
      cases c <;> simp only [hc] at e' <;> first | cases e'; done | skip
      rename_i xs
      obtain ⟨z, vs, hH, rv⟩ := st.cells l _ a hc ha
      cases q : toDps (ptrD M n) xs with
      | none => rw [q] at e'; cases e'
      | some ds =>
        rw [q] at e'
        cases e'
        exact .lst (.inl (.inl hH)) (toDps_ok st.sees (ptrD_ok st n) q rv)
theorem toD_ok (st : StM K g F H M) {x : AV} {v : V} {d : PyData} (e : toD M x = some d) (r : Rep K g x v) : Dp K H v d := toDp_ok st.sees (ptrD_ok st 3) e r
end
def fEqv (neg : Bool) (x y : AV) (M : Mem) : Res AV := match x, y with
  | .str a, .str b => .ok (.bl (if neg = true then !decide (a = b) else decide (a = b))) M
  | x, y => match toD M x, toD M y with
    | some d, some e => if (SeqAt.shaped d && SeqAt.shaped e) = true then .ok (.bl (if neg = true then !PyData.eqv d e else PyData.eqv d e)) M else .bad
    | _, _ => .bad
theorem dec_str {a b : Str} : decide (V.str a = V.str b) = decide (a = b) := by
  rw [Bool.eq_iff_iff]
  simp
theorem jo_eq (G : Ok X S W k) : OpJ X S (compareOp .Eq) (fEqv false) := by
  refine ⟨_, opR_or op_eq (op_eqD G.rm.r.units), fun W g0 F σ H δ M x y v u Q st rx ry p => ?_⟩
  unfold fEqv at p
  split at p
  · cases (show v = .str _ from rx)
    cases (show u = .str _ from ry)
    refine .inl ⟨rfl, ?_⟩
    rw [dec_str]
    exact p g0 _ H (.refl g0) st rfl
  · split at p
    · rename_i d e e1 e2
      obtain ⟨q, p2⟩ := ifok (P := fun r => PoE S W F σ δ g0 r Q) id p
      rw [Bool.and_eq_true] at q
      rw [G.K]
      exact .inr ⟨_, _, toD_ok st.m e1 rx, toD_ok st.m e2 ry, q.1, q.2, p2 g0 _ H (.refl g0) st rfl⟩
    · exact p.elim
theorem jo_ne (G : Ok X S W k) : OpJ X S (compareOp .NotEq) (fEqv true) := by
  refine ⟨_, opR_or op_ne (op_neD G.rm.r.units), fun W g0 F σ H δ M x y v u Q st rx ry p => ?_⟩
  unfold fEqv at p
  split at p
  · cases (show v = .str _ from rx)
    cases (show u = .str _ from ry)
    refine .inl ⟨rfl, ?_⟩
    rw [dec_str]
    exact p g0 _ H (.refl g0) st rfl
  · split at p
    · rename_i d e e1 e2
      obtain ⟨q, p2⟩ := ifok (P := fun r => PoE S W F σ δ g0 r Q) id p
      rw [Bool.and_eq_true] at q
      rw [G.K]
      exact .inr ⟨_, _, toD_ok st.m e1 rx, toD_ok st.m e2 ry, q.1, q.2, p2 g0 _ H (.refl g0) st rfl⟩
    · exact p.elim
/-- x is None -/
def fIsN (neg : Bool) (x y : AV) (M : Mem) : Res AV := match y with
  | .non => match x with
    | .non => .ok (.bl (!neg)) M
    | .raw _ => .bad
    | _ => .ok (.bl neg) M
  | _ => .bad
theorem rep_non {K : PySem.W.Frag} {g : Gh} {x : AV} {v : V} (r : Rep K g x v) (hx : ∀ u, x ≠ .raw u) : decide (v = .non) = (match x with | .non => true | _ => false) := by
  cases x with
  | non => cases (show v = .non from r); rfl
  | bl b => cases (show v = .bl b from r); rfl
  | int b => cases (show v = .int b from r); rfl
  | str b => cases (show v = .str b from r); rfl
  | tup xs => obtain ⟨a, vs, rfl, _⟩ := r; rfl
  | lst xs => obtain ⟨a, vs, rfl, _⟩ := r; rfl
  | ptr l => obtain ⟨a, rfl, _⟩ := r; rfl
  | scr l => obtain ⟨a, rfl, _⟩ := r; rfl
  | raw u => exact absurd rfl (hx u)
theorem jo_isN : OpJ X S (compareOp .Is) (fIsN false) := by
  refine ⟨_, op_isN, fun W g0 F σ H δ M x y v u Q st rx ry p => ?_⟩
  unfold fIsN at p
  split at p
  · refine ⟨ry, ?_⟩
    cases x <;> first | exact p.elim | (rw [rep_non rx (fun u z => by cases z)]; exact p g0 _ H (.refl g0) st rfl)
  · exact p.elim
theorem jo_notN : OpJ X S (compareOp .IsNot) (fIsN true) := by
  refine ⟨_, op_notN, fun W g0 F σ H δ M x y v u Q st rx ry p => ?_⟩
  unfold fIsN at p
  split at p
  · refine ⟨ry, ?_⟩
    cases x <;> first | exact p.elim | (rw [rep_non rx (fun u z => by cases z)]; exact p g0 _ H (.refl g0) st rfl)
  · exact p.elim
/-! ### indices, slices -/
def itemsOf (M : Mem) : AV → Option (List AV)
  | .lst xs => some xs
  | .tup xs => some xs
  | .ptr l => match M[l]? with
    | some (.lst xs) => some xs
    | _ => none
  | _ => none
def fIx (x y : AV) (M : Mem) : Res AV := match itemsOf M x, y with
  | some xs, .int i => match atI xs i with
    | some z => .ok z M
    | none => .bad
  | _, _ => .bad
theorem items_ok {K : PySem.W.Frag} {g : Gh} {F : Fm} {H : Hp} {M : Mem} (st : StM K g F H M) {x : AV} {v : V} {xs : List AV} (e : itemsOf M x = some xs) (r : Rep K g x v) : ∃ a vs, v = .ref a ∧ (H a = some (.lst vs) ∨ H a = some (.tup vs)) ∧ RepL K g xs vs := by
  cases x <;> first | cases e; done | skip
  · obtain ⟨a, vs, rfl, hI, rv⟩ := r
    cases e
    exact ⟨a, vs, rfl, .inr (st.sees _ _ hI), rv⟩
  · obtain ⟨a, vs, rfl, hI, rv⟩ := r
    cases e
    exact ⟨a, vs, rfl, .inl (st.sees _ _ hI), rv⟩
  · rename_i l
    obtain ⟨a, rfl, ha⟩ := r
    have e' : (match M[l]? with | some (.lst xs) => some xs | _ => none) = some xs := e
    cases hc : M[l]? with
    | none => simp only [hc] at e'; cases e'
    | some c =>
      cases c <;> simp only [hc] at e' <;> first | cases e'; done | skip
      obtain ⟨z, vs, hH, rv⟩ := st.cells l _ a hc ha
      cases e'
      exact ⟨a, vs, rfl, .inl hH, rv⟩
theorem atI_rep {K : PySem.W.Frag} {g : Gh} {xs : List AV} {vs : List V} {i : Int} {z : AV} (rv : RepL K g xs vs) (h : atI xs i = some z) : ∃ v, atI vs i = some v ∧ Rep K g z v := by
  unfold atI at h ⊢
  rw [rv.len] at h
  cases e : ixN vs.length i with
  | none => rw [e] at h; cases h
  | some j =>
    rw [e] at h
    exact rv.get h
theorem y_item {a b : Expr} {ea eb : AE} {pos : Pos} (G : Ok X S W k) (ha : PE X a (tE S W ea)) (hb : PE X b (tE S W eb)) (hs : PlainIx b := by exact fun _ _ => rfl) : PE X (.Subscript a b pos) (tE S W (aBin fIx ea eb)) := by
  refine y_ix (IxR.or ix_list ix_tup) (fun W g0 F σ H δ M x y v u Q st rx ry p => ?_) ha hb hs
  unfold fIx at p
  split at p
  · rename_i xs i e
    cases e2 : atI xs i with
    | none => simp only [e2] at p; exact p.elim
    | some z =>
      simp only [e2] at p
      obtain ⟨q, vs, rfl, hH, rv⟩ := items_ok st.m e rx
      obtain ⟨w, h1, h2⟩ := atI_rep rv e2
      have pq := p g0 w H (.refl g0) st h2
      rcases hH with hH | hH
      · exact .inl ⟨q, vs, i, w, rfl, ry, .inl (.inl hH), h1, pq⟩
      · exact .inr ⟨q, vs, i, w, rfl, ry, .inl (.inl hH), h1, pq⟩
  · exact p.elim
abbrev AO := Sl → Mem → Res (Option Int)
def PoO (S : Sy) (W : WX) (F : Fm) (σ : Sg) (δ : Sl) (g : Gh) (r : Res (Option Int)) (Q : Option Int → Hp → Prop) : Prop := match r with
  | .bad => False
  | .ok o M => ∀ g' H', g.le g' → StS S.K g' F σ H' δ M → Q o H'
  | .exc x M => PoX S W F σ δ g x M
def tO (S : Sy) (W : WX) (a : AO) : TO := fun σ H Q => ∃ g F δ M, StS S.K g F σ H δ M ∧ PoO S W F σ δ g (a δ M) Q
def aNoP : AO := fun _ M => .ok none M
def aPart (a : AE) : AO := fun δ M => (a δ M).bind fun x M1 => match x with
  | .int i => .ok (some i) M1
  | _ => .bad
theorem po_imp {e : Option Expr} {t t' : TO} (h : PO X e t) (hi : ∀ σ H Q, t' σ H Q → t σ H Q) : PO X e t' := ⟨fun pins s σ H Q I q => h.run pins s σ H Q I (hi σ H Q q)⟩
theorem yp_none : PO X none (tO S W aNoP) := po_imp po_none fun σ H Q ⟨g, F, δ, M, st, p⟩ => p g H (.refl g) st
theorem yp_some {e : Expr} {a : AE} (h : PE X e (tE S W a)) : PO X (some e) (tO S W (aPart a)) := by
  refine po_imp (po_some h) fun σ H Q ⟨g, F, δ, M, st, p⟩ => ⟨g, F, δ, M, st, ?_⟩
  refine bindE (P := fun g r => PoO S W F σ δ g r Q) (fun g' r e h => ?_) id (fun _ _ h => h) p fun g1 x M1 v H1 e1 st1 r1 p1 => ?_
  · cases r with
    | bad => exact h
    | ok r M => exact fun g2 H' e2 => h g2 H' (e.trans e2)
    | exc x M => exact PoX.mono e h
  · cases x <;> first | exact p1.elim | skip
    exact ⟨_, r1, p1 g1 H1 (.refl g1) st1⟩
def cutA {α : Type} (xs : List α) (lo hi : Option Int) : List α := (xs.drop (HT.sIx xs.length 0 lo)).take (HT.sIx xs.length xs.length hi - HT.sIx xs.length 0 lo)
def seqOf (M : Mem) : AV → Option (List AV)
  | .lst xs => some xs
  | .scr ns => some (ns.map .int)
  | .ptr l => match M[l]? with
    | some (.lst xs) => some xs
    | _ => none
  | _ => none
def aSlice (a : AE) (l h : AO) : AE := fun δ M => (a δ M).bind fun x M1 => (l δ M1).bind fun lo M2 => (h δ M2).bind fun hi M3 => match seqOf M3 x with
  | some xs => .ok (.lst (cutA xs lo hi)) M3
  | none => .bad
theorem seq_ok {K : PySem.W.Frag} {g : Gh} {F : Fm} {H : Hp} {M : Mem} (st : StM K g F H M) {x : AV} {v : V} {xs : List AV} (e : seqOf M x = some xs) (r : Rep K g x v) : ∃ a vs, v = .ref a ∧ SqL K H a vs ∧ RepL K g xs vs := by
  cases x <;> first | cases e; done | skip
  · obtain ⟨a, vs, rfl, hI, rv⟩ := r
    cases e
    exact ⟨a, vs, rfl, .inl (.inl (st.sees _ _ hI)), rv⟩
  · rename_i l
    obtain ⟨a, rfl, ha⟩ := r
    have e' : (match M[l]? with | some (.lst xs) => some xs | _ => none) = some xs := e
    cases hc : M[l]? with
    | none => simp only [hc] at e'; cases e'
    | some c =>
      cases c <;> simp only [hc] at e' <;> first | cases e'; done | skip
      obtain ⟨z, vs, hH, rv⟩ := st.cells l _ a hc ha
      cases e'
      exact ⟨a, vs, rfl, .inl (.inl hH), rv⟩
  · obtain ⟨a, rfl, ha⟩ := r
    cases e
    exact ⟨a, _, rfl, st.sees.seq ha, repL_ints_of _⟩
theorem bindOE {F : Fm} {σ : Sg} {δ : Sl} {g : Gh} {r : Res (Option Int)} {k : Option Int → Mem → Res AV} {Q0 : VK} {Q : Option Int → Hp → Prop} (h : PoE S W F σ δ g (r.bind k) Q0)
    (hk : ∀ g' x M' H', g.le g' → StS S.K g' F σ H' δ M' → PoE S W F σ δ g' (k x M') Q0 → Q x H') : PoO S W F σ δ g r Q := by
  cases r with
  | bad => exact h
  | ok x M' => exact fun g' H' e st => hk g' x M' H' e st (PoE.mono e h)
  | exc x M' => exact h
theorem y_slice {e : Expr} {lo hi : Option Expr} {a : AE} {l h : AO} {p2 pos : Pos} (G : Ok X S W k) (he : PE X e (tE S W a)) (hl : PO X lo (tO S W l)) (hh : PO X hi (tO S W h)) : PE X (.Subscript e (.Slice lo hi none p2) pos) (tE S W (aSlice a l h)) := by
  refine pe_imp (pe_slice sl_list he hl hh) fun σ H Q ⟨g, F, δ, M, st, p⟩ => ⟨g, F, δ, M, st, ?_⟩
  refine bindEE p fun g1 x M1 v H1 e1 st1 r1 p1 => ⟨g1, F, δ, M1, st1, ?_⟩
  refine bindOE p1 fun g2 lo M2 H2 e2 st2 p2 => ⟨g2, F, δ, M2, st2, ?_⟩
  refine bindOE p2 fun g3 hi M3 H3 e3 st3 p3 => ?_
  cases e : seqOf M3 x with
  | none => simp only [e] at p3; exact p3.elim
  | some xs =>
    simp only [e] at p3
    obtain ⟨q, vs, rfl, hH, rv⟩ := seq_ok st3.m e (r1.mono (e2.trans e3))
    rw [G.K]
    have hc : cutV vs lo hi = cutA vs lo hi := rfl
    refine ⟨q, vs, rfl, hH, ?_⟩
    rw [hc]
    refine new_frz st3 ?_ p3
    have hlen := rv.len
    unfold cutA
    rw [hlen]
    exact (rv.drop _).take _
/-! ### methods of lists -/
def aMeth (f : AV → List AV → Mem → Res AV) (a : AE) (b : AA) : AE := fun δ M => (a δ M).bind fun x M1 => (b δ M1).bind fun xs M2 => f x xs M2
/-- the receiver is a list that stands for itself -/
def isL (M : Mem) : AV → Bool
  | .lst _ => true
  | .ptr l => match M[l]? with
    | some (.lst _) => true
    | _ => false
  | _ => false
def aMethL (f : AV → List AV → Mem → Res AV) (a : AE) (b : AA) : AE := fun δ M => (a δ M).bind fun x M1 => if isL M1 x = true then (b δ M1).bind fun xs M2 => f x xs M2 else .bad
theorem isL_ok {K : PySem.W.Frag} {g : Gh} {F : Fm} {H : Hp} {M : Mem} (st : StM K g F H M) {x : AV} {v : V} (e : isL M x = true) (r : Rep K g x v) : tyV K "list" v H := by
  cases x <;> first | cases e; done | skip
  · obtain ⟨a, vs, rfl, hI, rv⟩ := r
    exact .inl ⟨rfl, vs, .inl (.inl (st.sees _ _ hI))⟩
  · rename_i l
    obtain ⟨a, rfl, ha⟩ := r
    have e' : (match M[l]? with | some (.lst _) => true | _ => false) = true := e
    cases hc : M[l]? with
    | none => simp only [hc] at e'; cases e'
    | some c =>
      cases c <;> simp only [hc] at e' <;> first | cases e'; done | skip
      obtain ⟨z, vs, hH, rv⟩ := st.cells l _ a hc ha
      exact .inl ⟨rfl, vs, .inl (.inl hH)⟩
theorem y_methL {o e : Expr} {es : List Expr} {name : Str} {apos cpos : Pos} {r : V → List V → Hp → VK → Prop} {f : AV → List AV → Mem → Res AV} {a : AE} {b : AA} (G : Ok X S W k) (hf : MtS S r f) (ho : PE X o (tE S W a)) (ha : PA X (e :: es) (tA S W b))
    (h : ∀ to t, PE X o to → PA X (e :: es) t → PE X (.Call (.Attribute o name apos) (e :: es) [] cpos) (tBM X.K "list" r to t)) : PE X (.Call (.Attribute o name apos) (e :: es) [] cpos) (tE S W (aMethL f a b)) := by
  refine pe_imp (h _ _ ho ha) fun σ H Q ⟨g, F, δ, M, st, p⟩ => ⟨g, F, δ, M, st, ?_⟩
  refine bindEE p fun g1 x M1 v H1 e1 st1 r1 p1 => ?_
  obtain ⟨c, p2⟩ := ifok (P := fun r => PoE S W F σ δ g1 r Q) id p1
  rw [G.K]
  refine ⟨isL_ok st1.m c r1, g1, F, δ, M1, st1, ?_⟩
  exact bindAE p2 fun g2 xs M2 vs H2 e2 st2 r2 p3 => hf W g2 F σ H2 δ M2 x v xs vs Q st2 (r1.mono e2) r2 p3
end
end Yk
/-! Methods of lists, built-ins, representations. -/
namespace Yk
open PySem PySem.Spec L2
section
variable {X : Cx} {S : Sy} {W : WX} {k : Nat}
/-! ### methods -/
def fApp (x : AV) (ys : List AV) (M : Mem) : Res AV := match x, ys with
  | .ptr l, [y] => match M[l]? with
    | some (.lst xs) => if xs.length < lim then .ok .non (M.set l (.lst (xs ++ [y]))) else .bad
    | _ => .bad
  | _, _ => .bad
theorem lst_at {K : PySem.W.Frag} {g : Gh} {F : Fm} {H : Hp} {M : Mem} (st : StM K g F H M) {l : Nat} {xs : List AV} {v : V} (hc : M[l]? = some (.lst xs)) (r : Rep K g (.ptr l) v) : ∃ a vs, v = .ref a ∧ g.ρ[l]? = some a ∧ g.I a = none ∧ H a = some (.lst vs) ∧ RepL K g xs vs := by
  obtain ⟨a, rfl, ha⟩ := r
  obtain ⟨z, vs, hH, rv⟩ := st.cells l _ a hc ha
  exact ⟨a, vs, rfl, ha, z, hH, rv⟩
theorem mut_lst {g : Gh} {F : Fm} {σ : Sg} {H : Hp} {δ : Sl} {M : Mem} (st : StS S.K g F σ H δ M) {l : Nat} {a : Addr} {ys : List AV} {us : List V} (ha : g.ρ[l]? = some a) (hI : g.I a = none) (rv : RepL S.K g ys us) : StS S.K g F σ (upd H a (.lst us)) δ (M.set l (.lst ys)) :=
  ⟨st.m.mut ha hI ⟨hI, us, upd_same, rv⟩, st.s⟩
theorem js_app : MtS S rAppend fApp := by
  intro W g F σ H δ M x v xs vs Q st rx rs p
  unfold fApp at p
  split at p
  · rename_i l y
    cases hc : M[l]? with
    | none => simp only [hc] at p; exact p.elim
    | some c =>
      cases c <;> simp only [hc] at p <;> first | exact p.elim | skip
      rename_i zs
      obtain ⟨q, p2⟩ := ifok (P := fun r => PoE S W F σ δ g r Q) id p
      obtain ⟨a, us, rfl, ha, hI, hH, rv⟩ := lst_at st.m hc rx
      obtain ⟨u, r', rfl, r1, r2⟩ := rs
      have r2' : r' = [] := r2
      subst r2'
      exact ⟨a, us, u, rfl, rfl, hH, by rw [← rv.len]; exact lim_lt q, p2 g _ _ (.refl g) (mut_lst st ha hI (rv.app (.one r1))) rfl⟩
  · exact p.elim
theorem y_append {o e : Expr} {apos cpos : Pos} {a : AE} {b : AA} (G : Ok X S W k) (ho : PE X o (tE S W a)) (ha : PA X [e] (tA S W b))
    (h : ∀ to t, PE X o to → PA X [e] t → PE X (.Call (.Attribute o "append" apos) [e] [] cpos) (tBM X.K "list" rAppend to t) := by intro to t ho ha; exact pe_bm PySem.F.plainAttrs_list PySem.F.slot_list_append PySem.F.type_list_append mt_append ho ha) :
    PE X (.Call (.Attribute o "append" apos) [e] [] cpos) (tE S W (aMethL fApp a b)) := y_methL G js_app ho ha h
def fPopAt (x : AV) (ys : List AV) (M : Mem) : Res AV := match x, ys with
  | .ptr l, [.int i] => match M[l]? with
    | some (.lst xs) => if 0 ≤ i ∧ i < xs.length ∧ i < 100000 then (match xs[i.toNat]? with
      | some y => .ok y (M.set l (.lst (xs.eraseIdx i.toNat)))
      | none => .bad) else .bad
    | _ => .bad
  | _, _ => .bad
theorem js_popAt : MtS S rPopAt fPopAt := by
  intro W g F σ H δ M x v xs vs Q st rx rs p
  unfold fPopAt at p
  split at p
  · rename_i l i
    cases hc : M[l]? with
    | none => simp only [hc] at p; exact p.elim
    | some c =>
      cases c <;> simp only [hc] at p <;> first | exact p.elim | skip
      rename_i zs
      obtain ⟨⟨q1, q2, q3⟩, p2⟩ := ifok (P := fun r => PoE S W F σ δ g r Q) id p
      obtain ⟨a, us, rfl, ha, hI, hH, rv⟩ := lst_at st.m hc rx
      obtain ⟨u, r', rfl, r1, r2⟩ := rs
      have r2' : r' = [] := r2
      have r1' : u = .int i := r1
      subst r1' r2'
      cases hy : zs[i.toNat]? with
      | none => simp only [hy] at p2; exact p2.elim
      | some y =>
        simp only [hy] at p2
        obtain ⟨w, hw, rw'⟩ := rv.get hy
        refine ⟨a, us, i, i.toNat, w, rfl, rfl, hH, by omega, by omega, ?_, hw, p2 g _ _ (.refl g) (mut_lst st ha hI (rv.erase _)) rw'⟩
        refine (ixN_seq ?_).1
        unfold ixN
        rw [if_pos q1, if_pos (by rw [← rv.len]; exact q2)]
  · exact p.elim
theorem y_popAt {o e : Expr} {apos cpos : Pos} {a : AE} {b : AA} (G : Ok X S W k) (ho : PE X o (tE S W a)) (ha : PA X [e] (tA S W b))
    (h : ∀ to t, PE X o to → PA X [e] t → PE X (.Call (.Attribute o "pop" apos) [e] [] cpos) (tBM X.K "list" rPopAt to t) := by intro to t ho ha; exact pe_bm PySem.F.plainAttrs_list PySem.F.slot_list_pop PySem.F.type_list_pop mt_popAt ho ha) :
    PE X (.Call (.Attribute o "pop" apos) [e] [] cpos) (tE S W (aMethL fPopAt a b)) := y_methL G js_popAt ho ha h
/-- o[i] = e: e first -/
def aStore (v o i : AE) : AS := fun δ M => (v δ M).then δ fun x M1 => (o δ M1).then δ fun p M2 => (i δ M2).then δ fun j M3 => match p, j with
  | .ptr l, .int n => match M3[l]? with
    | some (.lst xs) => match ixN xs.length n with
      | some m => .nx δ (M3.set l (.lst (xs.set m x)))
      | none => .bad
    | _ => .bad
  | _, _ => .bad
theorem ys_store {o i e : Expr} {v a b : AE} {tpos pos : Pos} (he : PE X e (tE S W v)) (ho : PE X o (tE S W a)) (hi : PE X i (tE S W b)) (h : ∀ te to ti, PE X e te → PE X o to → PE X i ti → PS X (.Assign [.Subscript o i tpos] e pos) (tAsg te (gSub to ti rSetL)) := by intro te to ti h1 h2 h3; exact ps_asg h1 (pg_sub h2 h3 set_list)) :
    PS X (.Assign [.Subscript o i tpos] e pos) (tS S W (aStore v a b)) := by
  refine ps_imp (h _ _ _ he ho hi) fun D σ H ⟨g, F, δ, M, st, p⟩ => ⟨g, F, δ, M, st, ?_⟩
  refine thenE p fun g1 x M1 vx H1 e1 st1 r1 p1 => ⟨g1, F, δ, M1, st1, ?_⟩
  refine thenE p1 fun g2 y M2 vy H2 e2 st2 r2 p2 => ⟨g2, F, δ, M2, st2, ?_⟩
  refine thenE p2 fun g3 z M3 vz H3 e3 st3 r3 p3 => ?_
  split at p3
  · rename_i l n
    cases hc : M3[l]? with
    | none => simp only [hc] at p3; exact p3.elim
    | some c =>
      cases c <;> simp only [hc] at p3 <;> first | exact p3.elim | skip
      rename_i xs
      cases hm : ixN xs.length n with
      | none => simp only [hm] at p3; exact p3.elim
      | some m =>
        simp only [hm] at p3
        obtain ⟨q, us, rfl, ha, hI, hH, rv⟩ := lst_at st3.m hc (r2.mono e3)
        have hz : vz = .int n := r3
        subst hz
        exact ⟨q, us, n, m, rfl, rfl, hH, by rw [← rv.len]; exact hm, p3 g3 σ _ (.refl g3) (mut_lst st3 ha hI (rv.set (r1.mono (e2.trans e3))))⟩
  · exact p3.elim
/-- o1[i1], o2[i2] = e -/
def stAt (M : Mem) (p j x : AV) : Option Mem := match p, j with
  | .ptr l, .int n => match M[l]? with
    | some (.lst xs) => match ixN xs.length n with
      | some m => some (M.set l (.lst (xs.set m x)))
      | none => none
    | _ => none
  | _, _ => none
theorem stAt_ok {g : Gh} {F : Fm} {σ : Sg} {H : Hp} {δ : Sl} {M M' : Mem} (st : StS S.K g F σ H δ M) {p j x : AV} {vp vj vx : V} (h : stAt M p j x = some M') (rp : Rep S.K g p vp) (rj : Rep S.K g j vj) (rx : Rep S.K g x vx) {Q : Hp → Prop} (hQ : ∀ H', StS S.K g F σ H' δ M' → Q H') : rSetL vp vj vx H Q := by
  unfold stAt at h
  split at h
  · rename_i l n
    cases hc : M[l]? with
    | none => simp only [hc] at h; cases h
    | some c =>
      cases c <;> simp only [hc] at h <;> first | (cases h; done) | skip
      rename_i xs
      cases hm : ixN xs.length n with
      | none => simp only [hm] at h; cases h
      | some m =>
        simp only [hm] at h
        cases h
        obtain ⟨q, us, rfl, ha, hI, hH, rv⟩ := lst_at st.m hc rp
        have hz : vj = .int n := rj
        subst hz
        exact ⟨q, us, n, m, rfl, rfl, hH, by rw [← rv.len]; exact hm, hQ _ (mut_lst st ha hI (rv.set rx))⟩
  · cases h
def aSwap (v o1 i1 o2 i2 : AE) : AS := fun δ M => (v δ M).then δ fun x M1 => match x with
  | .tup [x1, x2] => (o1 δ M1).then δ fun p1 M2 => (i1 δ M2).then δ fun j1 M3 => match stAt M3 p1 j1 x1 with
    | some M4 => (o2 δ M4).then δ fun p2 M5 => (i2 δ M5).then δ fun j2 M6 => match stAt M6 p2 j2 x2 with
      | some M7 => .nx δ M7
      | none => .bad
    | none => .bad
  | _ => .bad
theorem ys_swap {o1 i1 o2 i2 e : Expr} {v a1 b1 a2 b2 : AE} {q1 q2 tp pos : Pos} {kk : Nat} (hc : X.calm = true) (he : PE X e (tE S W v)) (h1 : PE X o1 (tE S W a1)) (h2 : PE X i1 (tE S W b1)) (h3 : PE X o2 (tE S W a2)) (h4 : PE X i2 (tE S W b2))
    (h : ∀ te t1 t2 t3 t4, X.calm = true → PE X e te → PE X o1 t1 → PE X i1 t2 → PE X o2 t3 → PE X i2 t4 → PS X (.Assign [.Tuple [.Subscript o1 i1 q1, .Subscript o2 i2 q2] kk tp] e pos) (tAsg te (gTup X.K 2 (gCons (gSub t1 t2 rSetL) (gCons (gSub t3 t4 rSetL) gNil)))) := by
      intro te t1 t2 t3 t4 hc h h1 h2 h3 h4; exact ps_asg h (pg_tup hc (pgs_cons (pg_sub h1 h2 set_list) (pgs_cons (pg_sub h3 h4 set_list) pgs_nil)))) :
    PS X (.Assign [.Tuple [.Subscript o1 i1 q1, .Subscript o2 i2 q2] kk tp] e pos) (tS S W (aSwap v a1 b1 a2 b2)) := by
  refine ps_imp (h _ _ _ _ _ hc he h1 h2 h3 h4) fun D σ H ⟨g, F, δ, M, st, p⟩ => ⟨g, F, δ, M, st, ?_⟩
  refine thenE p fun g1 x M1 vx H1 e1 st1 r1 p1 => ?_
  split at p1
  · rename_i x1 x2
    obtain ⟨q, us, rfl, hI, v1, r', rfl, rx1, v2, r2', rfl, rx2, r3⟩ := r1
    have r3' : r2' = [] := r3
    subst r3'
    refine ⟨q, _, rfl, .inl (.inl (st1.m.sees _ _ hI)), rfl, v1, [v2], rfl, g1, F, δ, M1, st1, ?_⟩
    refine thenE p1 fun g2 y1 M2 w1 H2 e2 st2 ry1 p2 => ⟨g2, F, δ, M2, st2, ?_⟩
    refine thenE p2 fun g3 y2 M3 w2 H3 e3 st3 ry2 p3 => ?_
    cases hs : stAt M3 y1 y2 x1 with
    | none => simp only [hs] at p3; exact p3.elim
    | some M4 =>
      simp only [hs] at p3
      refine stAt_ok st3 hs (ry1.mono e3) ry2 (rx1.mono (e2.trans e3)) fun H4 st4 => ⟨v2, [], rfl, g3, F, δ, M4, st4, ?_⟩
      refine thenE p3 fun g5 y3 M5 w3 H5 e5 st5 ry3 p5 => ⟨g5, F, δ, M5, st5, ?_⟩
      refine thenE p5 fun g6 y4 M6 w4 H6 e6 st6 ry4 p6 => ?_
      cases hs2 : stAt M6 y3 y4 x2 with
      | none => simp only [hs2] at p6; exact p6.elim
      | some M7 =>
        simp only [hs2] at p6
        exact stAt_ok st6 hs2 (ry3.mono e6) ry4 (rx2.mono (((e2.trans e3).trans e5).trans e6)) fun H7 st7 => ⟨rfl, p6 g6 σ H7 (.refl g6) st7⟩
  · exact p1.elim
/-! ### built-ins -/
def fInt (xs : List AV) (M : Mem) : Res AV := match xs with
  | [.int i] => .ok (.int i) M
  | [.bl b] => .ok (.int (if b then 1 else 0)) M
  | _ => .bad
theorem vs_one {K : PySem.W.Frag} {g : Gh} {x : AV} {vs : List V} (r : RepL K g [x] vs) : ∃ v, vs = [v] ∧ Rep K g x v := by
  obtain ⟨v, r', rfl, r1, r2⟩ := r
  have r2' : r' = [] := r2
  subst r2'
  exact ⟨v, rfl, r1⟩
theorem vs_two {K : PySem.W.Frag} {g : Gh} {x y : AV} {vs : List V} (r : RepL K g [x, y] vs) : ∃ v u, vs = [v, u] ∧ Rep K g x v ∧ Rep K g y u := by
  obtain ⟨v, r', rfl, r1, u, r2', rfl, r2, r3⟩ := r
  have r3' : r2' = [] := r3
  subst r3'
  exact ⟨v, u, rfl, r1, r2⟩
theorem js_int : CaS S (fun xs H Q => (∃ i, xs = [.int i] ∧ Q (.int i) H) ∨ ∃ k, xs = [.bl k] ∧ Q (.int (if k then 1 else 0)) H) fInt := by
  intro W g F σ H δ M xs vs Q st rs p
  unfold fInt at p
  split at p
  · obtain ⟨v, rfl, r⟩ := vs_one rs
    have r' : v = .int _ := r
    subst r'
    exact .inl ⟨_, rfl, p g _ H (.refl g) st rfl⟩
  · obtain ⟨v, rfl, r⟩ := vs_one rs
    have r' : v = .bl _ := r
    subst r'
    exact .inr ⟨_, rfl, p g _ H (.refl g) st rfl⟩
  · exact p.elim
theorem y_int1 {e : Expr} {a : AA} {p pos : Pos} (hm : X.mg "int" = none) (ha : PA X [e] (tA S W a)) (h : ∀ f r, X.mg "int" = none → PA X [e] (tA S W a) → CallR X (.type "int") r → CaS S r f → PE X (.Call (.Name "int" p) [e] [] pos) (tE S W (aCall f a)) := by intro f r h0 ha h1 h2; exact y_ty_call h1 h2 h0 (by decide +kernel) ha) :
    PE X (.Call (.Name "int" p) [e] [] pos) (tE S W (aCall fInt a)) := h _ _ hm ha call_int1 js_int
def fLen (xs : List AV) (M : Mem) : Res AV := match xs with
  | [x] => match itemsOf M x with
    | some ys => .ok (.int ys.length) M
    | none => .bad
  | _ => .bad
theorem js_len (K : PySem.W.Frag) : CaS S (fun xs H Q => ∃ p ys, xs = [.ref p] ∧ (SqL K H p ys ∨ SqT K H p ys) ∧ Q (.int ys.length) H) fLen := by
  intro W g F σ H δ M xs vs Q st rs p
  unfold fLen at p
  split at p
  · rename_i x
    obtain ⟨v, rfl, r⟩ := vs_one rs
    cases e : itemsOf M x with
    | none => simp only [e] at p; exact p.elim
    | some ys =>
      simp only [e] at p
      obtain ⟨q, us, rfl, hH, rv⟩ := items_ok st.m e r
      have pq := p g _ H (.refl g) st rfl
      rw [rv.len] at pq
      rcases hH with hH | hH
      · exact ⟨q, us, rfl, .inl (.inl (.inl hH)), pq⟩
      · exact ⟨q, us, rfl, .inr (.inl (.inl hH)), pq⟩
  · exact p.elim
theorem y_len {e : Expr} {a : AA} {p pos : Pos} (hm : X.mg "len" = none) (ha : PA X [e] (tA S W a)) (h : ∀ f r, X.mg "len" = none → PA X [e] (tA S W a) → CallR X (.builtin "len") r → CaS S r f → PE X (.Call (.Name "len" p) [e] [] pos) (tE S W (aCall f a)) := by intro f r h0 ha h1 h2; exact y_blt_call h1 h2 h0 PySem.boot_len ha) :
    PE X (.Call (.Name "len" p) [e] [] pos) (tE S W (aCall fLen a)) := h _ _ hm ha call_len_seq (js_len X.K)
/-! ### isinstance -/
def tyA (M : Mem) : AV → Option String
  | .non => some "NoneType"
  | .bl _ => some "bool"
  | .int _ => some "int"
  | .str _ => some "str"
  | .tup _ => some "tuple"
  | .lst _ => some "list"
  | .ptr l => match M[l]? with
    | some (.lst _) => some "list"
    | _ => none
  | _ => none
theorem tyA_ok {K : PySem.W.Frag} {g : Gh} {F : Fm} {H : Hp} {M : Mem} (st : StM K g F H M) {x : AV} {v : V} {t : String} (e : tyA M x = some t) (r : Rep K g x v) : TyX K H v (.type t) := by
  cases x <;> first | (cases e; done) | skip
  · cases e; cases (show v = .non from r); exact .base .non
  · cases e; rename_i b; cases (show v = .bl b from r); exact .base (.bl b)
  · cases e; rename_i b; cases (show v = .int b from r); exact .base (.int b)
  · cases e; rename_i b; cases (show v = .str b from r); exact .base (.str b)
  · cases e
    obtain ⟨a, vs, rfl, hI, rv⟩ := r
    exact .base (.tup (st.sees _ _ hI))
  · cases e
    obtain ⟨a, vs, rfl, hI, rv⟩ := r
    exact .base (.lst (st.sees _ _ hI))
  · rename_i l
    have e' : (match M[l]? with | some (.lst _) => some "list" | _ => none) = some t := e
    cases hc : M[l]? with
    | none => simp only [hc] at e'; cases e'
    | some c =>
      cases c <;> simp only [hc] at e' <;> first | (cases e'; done) | skip
      cases e'
      obtain ⟨a, vs, rfl, ha, hI, hH, rv⟩ := lst_at st hc r
      exact .base (.lst hH)
def isiTab : List ((String × String) × Bool) :=
  (["NoneType", "bool", "int", "str", "tuple", "list"].flatMap fun t => ["int", "bool", "list", "tuple"].map fun c => ((t, c), decide (t = c) || (decide (t = "bool") && decide (c = "int"))))
theorem isiTab_ok : ∀ p ∈ isiTab, kitB p.1.1 p.1.2 = some p.2 := by decide +kernel
def isiOf (t c : String) : Option Bool := (isiTab.find? fun p => decide (p.1 = (t, c))).map (·.2)
theorem isiOf_ok {t c : String} {b : Bool} (h : isiOf t c = some b) : kitB t c = some b := by
  unfold isiOf at h
  cases e : isiTab.find? fun p => decide (p.1 = (t, c)) with
  | none => rw [e] at h; cases h
  | some p =>
    rw [e] at h
    cases h
    have h1 := List.mem_of_find?_eq_some e
    have h2 := List.find?_some e
    have h3 : p.1 = (t, c) := of_decide_eq_true h2
    have := isiTab_ok p h1
    rw [h3] at this
    exact this
def fIsi (xs : List AV) (M : Mem) : Res AV := match xs with
  | [x, .raw (.ty c)] => match tyA M x with
    | some t => match isiOf t c with
      | some b => .ok (.bl b) M
      | none => .bad
    | none => .bad
  | _ => .bad
theorem js_isi (hK : X.K = S.K) : CaS S (rIsi X.K) fIsi := by
  intro W g F σ H δ M xs vs Q st rs p
  unfold fIsi at p
  split at p
  · rename_i x c
    obtain ⟨v, u, rfl, r1, r2⟩ := vs_two rs
    have r2' : u = .ty c := r2
    subst r2'
    cases e : tyA M x with
    | none => simp only [e] at p; exact p.elim
    | some t =>
      simp only [e] at p
      cases e2 : isiOf t c with
      | none => simp only [e2] at p; exact p.elim
      | some b =>
        simp only [e2] at p
        exact ⟨v, .ty c, .type t, .type c, b, rfl, .ty c, hK ▸ tyA_ok st.m e r1, kit_ty (isiOf_ok e2), p g _ H (.refl g) st rfl⟩
  · exact p.elim
theorem y_isi {e e2 : Expr} {a : AA} {p pos : Pos} (hK : X.K = S.K) (hm : X.mg "isinstance" = none) (ha : PA X [e, e2] (tA S W a)) (h : ∀ f r, X.mg "isinstance" = none → PA X [e, e2] (tA S W a) → CallR X (.builtin "isinstance") r → CaS S r f → PE X (.Call (.Name "isinstance" p) [e, e2] [] pos) (tE S W (aCall f a)) := by intro f r h0 ha h1 h2; exact y_blt_call h1 h2 h0 (by decide +kernel) ha) :
    PE X (.Call (.Name "isinstance" p) [e, e2] [] pos) (tE S W (aCall fIsi a)) := h _ _ hm ha call_isi (js_isi hK)
/-! ### min, all, sorted -/
def fMin2 (xs : List AV) (M : Mem) : Res AV := match xs with
  | [.int i, .int j] => .ok (.int (if j < i then j else i)) M
  | _ => .bad
theorem js_min2 : CaS S (fun xs H Q => ∃ i j, xs = [.int i, .int j] ∧ Q (.int (if j < i then j else i)) H) fMin2 := by
  intro W g F σ H δ M xs vs Q st rs p
  unfold fMin2 at p
  split at p
  · obtain ⟨v, u, rfl, r1, r2⟩ := vs_two rs
    have r1' : v = .int _ := r1
    have r2' : u = .int _ := r2
    subst r1' r2'
    exact ⟨_, _, rfl, p g _ H (.refl g) st rfl⟩
  · exact p.elim
theorem y_min2 {e e2 : Expr} {a : AA} {p pos : Pos} (hc : X.calm = true) (hm : X.mg "min" = none) (ha : PA X [e, e2] (tA S W a)) (h : ∀ f r, X.mg "min" = none → PA X [e, e2] (tA S W a) → CallR X (.builtin "min") r → CaS S r f → PE X (.Call (.Name "min" p) [e, e2] [] pos) (tE S W (aCall f a)) := by intro f r h0 ha h1 h2; exact y_blt_call h1 h2 h0 (by decide +kernel) ha) :
    PE X (.Call (.Name "min" p) [e, e2] [] pos) (tE S W (aCall fMin2 a)) := h _ _ hm ha (call_min2 hc) js_min2
def blsOf : List AV → Option (List Bool)
  | [] => some []
  | .bl b :: xs => (blsOf xs).map (b :: ·)
  | _ => none
def intsOf : List AV → Option (List Int)
  | [] => some []
  | .int b :: xs => (intsOf xs).map (b :: ·)
  | _ => none
theorem blsOf_eq : ∀ {xs : List AV} {bs : List Bool}, blsOf xs = some bs → xs = bs.map AV.bl
  | [], _, h => by cases h; rfl
  | x :: xs, bs, h => by
    cases x <;> first | (cases h; done) | skip
    rename_i b
    have h' : (blsOf xs).map (b :: ·) = some bs := h
    cases e : blsOf xs with
    | none => rw [e] at h'; cases h'
    | some cs =>
      rw [e] at h'
      cases h'
      rw [blsOf_eq e]
      rfl
theorem intsOf_eq : ∀ {xs : List AV} {bs : List Int}, intsOf xs = some bs → xs = bs.map AV.int
  | [], _, h => by cases h; rfl
  | x :: xs, bs, h => by
    cases x <;> first | (cases h; done) | skip
    rename_i b
    have h' : (intsOf xs).map (b :: ·) = some bs := h
    cases e : intsOf xs with
    | none => rw [e] at h'; cases h'
    | some cs =>
      rw [e] at h'
      cases h'
      rw [intsOf_eq e]
      rfl
theorem intsOf_map : ∀ ns : List Int, intsOf (ns.map AV.int) = some ns
  | [] => rfl
  | n :: ns => by
    show (intsOf (ns.map AV.int)).map (n :: ·) = some (n :: ns)
    rw [intsOf_map ns]
    rfl
theorem blsOf_map : ∀ ns : List Bool, blsOf (ns.map AV.bl) = some ns
  | [] => rfl
  | n :: ns => by
    show (blsOf (ns.map AV.bl)).map (n :: ·) = some (n :: ns)
    rw [blsOf_map ns]
    rfl
def fAll (xs : List AV) (M : Mem) : Res AV := match xs with
  | [.lst ys] => match blsOf ys with
    | some bs => .ok (.bl (bs.all id)) M
    | none => .bad
  | _ => .bad
theorem js_all (K : PySem.W.Frag) : CaS S (rAll K) fAll := by
  intro W g F σ H δ M xs vs Q st rs p
  unfold fAll at p
  split at p
  · rename_i ys
    obtain ⟨v, rfl, r⟩ := vs_one rs
    cases e : blsOf ys with
    | none => simp only [e] at p; exact p.elim
    | some bs =>
      simp only [e] at p
      obtain ⟨a, us, rfl, hI, rv⟩ := r
      rw [blsOf_eq e] at rv
      rw [repL_bls rv] at hI
      exact ⟨a, bs, rfl, .inl (.inl (st.m.sees _ _ hI)), p g _ H (.refl g) st rfl⟩
  · exact p.elim
theorem y_all {e : Expr} {a : AA} {p pos : Pos} (hc : X.calm = true) (hm : X.mg "all" = none) (ha : PA X [e] (tA S W a)) (h : ∀ f r, X.mg "all" = none → PA X [e] (tA S W a) → CallR X (.builtin "all") r → CaS S r f → PE X (.Call (.Name "all" p) [e] [] pos) (tE S W (aCall f a)) := by intro f r h0 ha h1 h2; exact y_blt_call h1 h2 h0 (by decide +kernel) ha) :
    PE X (.Call (.Name "all" p) [e] [] pos) (tE S W (aCall fAll a)) := h _ _ hm ha (cr_all hc) (js_all X.K)
def sortI (ns : List Int) : List Int := ns.mergeSort fun a b => decide (a ≤ b)
theorem sortI_perm (ns : List Int) : (sortI ns).Perm ns := List.mergeSort_perm _ _
theorem sortI_le (ns : List Int) : (sortI ns).Pairwise (· ≤ ·) := by
  have h := List.pairwise_mergeSort (le := fun a b : Int => decide (a ≤ b)) (fun a b c h1 h2 => by simp only [decide_eq_true_eq] at *; omega) (fun a b => by simp only [Bool.or_eq_true, decide_eq_true_eq]; omega) ns
  exact h.imp fun {a b} q => of_decide_eq_true q
theorem sortI_uniq {a ns : List Int} (hp : a.Perm ns) (ha : a.Pairwise (· ≤ ·)) : a = sortI ns := (hp.trans (sortI_perm ns).symm).eq_of_pairwise (fun x y _ _ h1 h2 => Int.le_antisymm h1 h2) ha (sortI_le ns)
def fSorted (xs : List AV) (M : Mem) : Res AV := match xs with
  | [.lst ys] => match intsOf ys with
    | some ns => .ok (.lst ((sortI ns).map .int)) M
    | none => .bad
  | _ => .bad
theorem js_sorted (K : PySem.W.Frag) : CaS S (rSortedI K) fSorted := by
  intro W g F σ H δ M xs vs Q st rs p
  unfold fSorted at p
  split at p
  · rename_i ys
    obtain ⟨v, rfl, r⟩ := vs_one rs
    cases e : intsOf ys with
    | none => simp only [e] at p; exact p.elim
    | some ns =>
      simp only [e] at p
      obtain ⟨a, us, rfl, hI, rv⟩ := r
      rw [intsOf_eq e] at rv
      rw [repL_ints rv] at hI
      refine ⟨a, ns, rfl, .inl (.inl (st.m.sees _ _ hI)), fun ns' q h1 h2 hq => ?_⟩
      rw [sortI_uniq h1 h2]
      exact new_frz st (repL_ints_of _) p q hq
  · exact p.elim
theorem y_sorted {e : Expr} {a : AA} {p pos : Pos} (hm : X.mg "sorted" = none) (ha : PA X [e] (tA S W a)) (h : ∀ f r, X.mg "sorted" = none → PA X [e] (tA S W a) → CallR X (.builtin "sorted") r → CaS S r f → PE X (.Call (.Name "sorted" p) [e] [] pos) (tE S W (aCall f a)) := by intro f r h0 ha h1 h2; exact y_blt_call h1 h2 h0 (by decide +kernel) ha) :
    PE X (.Call (.Name "sorted" p) [e] [] pos) (tE S W (aCall fSorted a)) := h _ _ hm ha cr_sortedI (js_sorted X.K)
/-- list(range(n)), a list that may change -/
def aLRng (a : AE) : AE := fun δ M => (a δ M).bind fun x M1 => match x with
  | .int n => if 0 ≤ n ∧ n ≤ 100000 then .ok (.ptr M1.length) (M1 ++ [.lst (rngA 0 n.toNat)]) else .bad
  | _ => .bad
theorem rg_rep {K : PySem.W.Frag} {g : Gh} (b : Int) (lo : Int) : ∀ l : List Nat, RepL K g (l.map fun i : Nat => AV.int (lo + i)) (l.map fun i : Nat => V.int (lo + (i : Nat)))
  | [] => rfl
  | i :: l => ⟨_, _, rfl, rfl, rg_rep b lo l⟩
theorem y_listR {e : Expr} {a : AE} {p p2 pos pos2 : Pos} (hc : X.calm = true) (hm : X.mg "list" = none) (hm2 : X.mg "range" = none) (ha : PE X e (tE S W a)) (h : ∀ te, X.calm = true → X.mg "list" = none → X.mg "range" = none → PE X e te → PE X (.Call (.Name "list" p) [.Call (.Name "range" p2) [e] [] pos2] [] pos) (tLstRg (tRg1 te)) := by intro te hc h0 h00 h; exact pe_listRg hc (by rfl) h0 (prg_1 (by rfl) h00 h)) :
    PE X (.Call (.Name "list" p) [.Call (.Name "range" p2) [e] [] pos2] [] pos) (tE S W (aLRng a)) := by
  refine pe_imp (h _ hc hm hm2 ha) fun σ H Q ⟨g, F, δ, M, st, q⟩ => ⟨g, F, δ, M, st, ?_⟩
  refine bindEE q fun g1 x M1 v H1 e1 st1 r1 p1 => ?_
  cases x <;> first | exact p1.elim | skip
  rename_i n
  obtain ⟨⟨c1, c2⟩, p2⟩ := ifok (P := fun r => PoE S W F σ δ g1 r Q) id p1
  refine ⟨n, r1, RgOk.of_le (Int.le_refl 0) (by omega) (by omega) c1, ?_⟩
  have hr : RepL S.K g1 (rngA 0 n.toNat) (rgV 0 n) := by
    unfold rngA rgV
    rw [Int.sub_zero]
    exact rg_rep n 0 _
  exact new_lst st1 hr p2
/-- list(xs) -/
def fListF (xs : List AV) (M : Mem) : Res AV := match xs with
  | [x] => match itemsOf M x with
    | some ys => .ok (.lst ys) M
    | none => .bad
  | _ => .bad
def fListN (xs : List AV) (M : Mem) : Res AV := match xs with
  | [x] => match itemsOf M x with
    | some ys => .ok (.ptr M.length) (M ++ [.lst ys])
    | none => .bad
  | _ => .bad
theorem js_listF (K : PySem.W.Frag) : CaS S (fun xs H Q => ∃ p ys, xs = [.ref p] ∧ (SqL K H p ys ∨ SqT K H p ys) ∧ ∀ l, H l = none → Q (.ref l) (upd H l (.lst ys))) fListF := by
  intro W g F σ H δ M xs vs Q st rs p
  unfold fListF at p
  split at p
  · rename_i x
    obtain ⟨v, rfl, r⟩ := vs_one rs
    cases e : itemsOf M x with
    | none => simp only [e] at p; exact p.elim
    | some ys =>
      simp only [e] at p
      obtain ⟨q, us, rfl, hH, rv⟩ := items_ok st.m e r
      rcases hH with hH | hH
      · exact ⟨q, us, rfl, .inl (.inl (.inl hH)), new_frz st rv p⟩
      · exact ⟨q, us, rfl, .inr (.inl (.inl hH)), new_frz st rv p⟩
  · exact p.elim
theorem js_listN (K : PySem.W.Frag) : CaS S (fun xs H Q => ∃ p ys, xs = [.ref p] ∧ (SqL K H p ys ∨ SqT K H p ys) ∧ ∀ l, H l = none → Q (.ref l) (upd H l (.lst ys))) fListN := by
  intro W g F σ H δ M xs vs Q st rs p
  unfold fListN at p
  split at p
  · rename_i x
    obtain ⟨v, rfl, r⟩ := vs_one rs
    cases e : itemsOf M x with
    | none => simp only [e] at p; exact p.elim
    | some ys =>
      simp only [e] at p
      obtain ⟨q, us, rfl, hH, rv⟩ := items_ok st.m e r
      rcases hH with hH | hH
      · exact ⟨q, us, rfl, .inl (.inl (.inl hH)), new_lst st rv p⟩
      · exact ⟨q, us, rfl, .inr (.inl (.inl hH)), new_lst st rv p⟩
  · exact p.elim
theorem y_listF {e : Expr} {a : AA} {p pos : Pos} (hm : X.mg "list" = none) (ha : PA X [e] (tA S W a)) (h : ∀ f r, X.mg "list" = none → PA X [e] (tA S W a) → CallR X (.type "list") r → CaS S r f → PE X (.Call (.Name "list" p) [e] [] pos) (tE S W (aCall f a)) := by intro f r h0 ha h1 h2; exact y_ty_call h1 h2 h0 (by decide +kernel) ha) :
    PE X (.Call (.Name "list" p) [e] [] pos) (tE S W (aCall fListF a)) := h _ _ hm ha call_list_of (js_listF X.K)
theorem y_listN {e : Expr} {a : AA} {p pos : Pos} (hm : X.mg "list" = none) (ha : PA X [e] (tA S W a)) (h : ∀ f r, X.mg "list" = none → PA X [e] (tA S W a) → CallR X (.type "list") r → CaS S r f → PE X (.Call (.Name "list" p) [e] [] pos) (tE S W (aCall f a)) := by intro f r h0 ha h1 h2; exact y_ty_call h1 h2 h0 (by decide +kernel) ha) :
    PE X (.Call (.Name "list" p) [e] [] pos) (tE S W (aCall fListN a)) := h _ _ hm ha call_list_of (js_listN X.K)
/-! ### repr -/
def shOk (d : PyData) : Bool := SeqAt.shaped d && d.showable && decide (d.shown.length ≤ sizeLine)
def isD : PyData → Bool
  | .list _ => true
  | .tuple _ => true
  | _ => false
def rReprD (K : PySem.W.Frag) : List V → Hp → VK → Prop := fun xs H Q => ∃ x d, xs = [x] ∧ Dp K H x d ∧ isD d = true ∧ shOk d = true ∧ Q (.str d.shown) H
theorem cr_repr (hr : Rg k X.A) : CallR X (.builtin "repr") (rReprD X.K) := by
  intro pins s σ H xs us Q I r h
  obtain ⟨x, d, rfl, hd, hi, hs, q⟩ := h
  unfold shOk at hs
  rw [Bool.and_eq_true, Bool.and_eq_true, decide_eq_true_eq] at hs
  obtain ⟨⟨s1, s2⟩, s3⟩ := hs
  cases r with
  | cons r1 r2 =>
    cases r2
    rename_i u
    obtain ⟨as, rd⟩ := Dp.reads I d x u hd r1
    obtain ⟨a, rfl⟩ : ∃ a, u = Value.ref a := by
      cases hd <;> first | (cases hi; done) | exact ⟨_, r1⟩
    have hdep := SeqAt.depth_of_shaped s1
    have hun := hr.r.un
    refine repr_of_reads' (h₀ := s.heap) rd s2 (PyData.noDict_hsm (PyData.hasDict_of_canLay d (SeqAt.canLay_of_shaped s1))) hr.g (by omega) (fun b o e => e) (fun h' u tk hk => ?_) s3
    exact ⟨.str d.shown, H, I.kept hk, ⟨_, rfl⟩, q⟩
def fRepr (xs : List AV) (M : Mem) : Res AV := match xs with
  | [x] => match toD M x with
    | some d => if (isD d && shOk d) = true then .ok (.str d.shown) M else .bad
    | none => .bad
  | _ => .bad
theorem js_repr (hK : X.K = S.K) : CaS S (rReprD X.K) fRepr := by
  intro W g F σ H δ M xs vs Q st rs p
  unfold fRepr at p
  split at p
  · rename_i x
    obtain ⟨v, rfl, r⟩ := vs_one rs
    cases e : toD M x with
    | none => simp only [e] at p; exact p.elim
    | some d =>
      simp only [e] at p
      obtain ⟨c, p2⟩ := ifok (P := fun r => PoE S W F σ δ g r Q) id p
      rw [Bool.and_eq_true] at c
      exact ⟨v, d, rfl, hK ▸ toD_ok st.m e r, c.1, c.2, p2 g _ H (.refl g) st rfl⟩
  · exact p.elim
theorem y_repr {e : Expr} {a : AA} {p pos : Pos} (G : Ok X S W k) (hm : X.mg "repr" = none) (ha : PA X [e] (tA S W a)) (h : ∀ f r, X.mg "repr" = none → PA X [e] (tA S W a) → CallR X (.builtin "repr") r → CaS S r f → PE X (.Call (.Name "repr" p) [e] [] pos) (tE S W (aCall f a)) := by intro f r h0 ha h1 h2; exact y_blt_call h1 h2 h0 (by decide +kernel) ha) :
    PE X (.Call (.Name "repr" p) [e] [] pos) (tE S W (aCall fRepr a)) := h _ _ hm ha (cr_repr G.rm) (js_repr G.K)
end
end Yk
/-! More rules. -/
namespace Yk
open PySem PySem.Spec L2
section
variable {X : Cx} {S : Sy} {W : WX} {k : Nat}
theorem y_globI {x : Str} {i : Int} {pos : Pos} (h : ∃ t, X.mg x = some (Value.int i t)) (hg : Gl X x := by rfl) (hd : (x == ("__debug__" : Str)) = false := by decide) : PE X (.Name x pos) (tE S W (aC (.int i))) := by
  obtain ⟨t, hm⟩ := h
  exact y_glob (v := .int i) rfl hm ⟨t, rfl⟩ hg hd
def fNeg (x : AV) (M : Mem) : Res AV := match x with
  | .int i => .ok (.int (-i)) M
  | _ => .bad
theorem js_neg : UnS S (rU fun i => .int (-i)) fNeg := by
  intro W g F σ H δ M x v Q st r p
  unfold fNeg at p
  split at p
  · exact ⟨_, r, p g _ H (.refl g) st rfl⟩
  · exact p.elim
theorem ys_par3 (i j l : Nat) {x y z : Str} {e1 e2 e3 : Expr} {a : AA} {px py pz pt pos : Pos} {kt k2 pt2} (hc : X.calm = true) (hN : X.N.Nodup) (ha : PA X [e1, e2, e3] (tA S W a)) (hi : X.N[i]? = some x := by rfl) (hj : X.N[j]? = some y := by rfl) (hl : X.N[l]? = some z := by rfl) (hij : i ≠ j := by decide) (hil : i ≠ l := by decide) (hjl : j ≠ l := by decide)
    (hx : X.env.scope.names.lookup x = some .local := by rfl) (hy : X.env.scope.names.lookup y = some .local := by rfl) (hz : X.env.scope.names.lookup z = some .local := by rfl)
    (hw : swappedStores [.Tuple [.Name x px, .Name y py, .Name z pz] kt pt] (.Tuple [e1, e2, e3] k2 pt2) X.env = pure (some [x, y, z]) := by rfl)
    (hs : swapsWithSole [.Tuple [.Name x px, .Name y py, .Name z pz] kt pt] (.Tuple [e1, e2, e3] k2 pt2) pos.line X.env = pure false := by rfl) :
    PS X (.Assign [.Tuple [.Name x px, .Name y py, .Name z pz] kt pt] (.Tuple [e1, e2, e3] k2 pt2) pos) (tS S W (aPar [i, j, l] a)) := by
  refine ps_imp (ps_par3 hc hN hi hj hl hij hil hjl hx hy hz ha hw hs) fun D σ H ⟨g, F, δ, M, st, p⟩ => ⟨g, F, δ, M, st, ?_⟩
  refine thenA p fun g1 xs M1 vs H1 e1 st1 r1 p1 => ?_
  match xs, r1, p1 with
  | [], _, p1 => exact p1.elim
  | [_], _, p1 => exact p1.elim
  | [_, _], _, p1 => exact p1.elim
  | _ :: _ :: _ :: _ :: _, _, p1 => exact p1.elim
  | [u, w, t], r1, p1 =>
    obtain ⟨v1, vr, rfl, q1, v2, vr2, rfl, q2, v3, vr3, rfl, q3, q4⟩ := r1
    have q4' : vr3 = [] := q4
    subst q4'
    exact ⟨v1, v2, v3, rfl, p1 g1 _ H1 (.refl g1) ⟨st1.m, ((st1.s.set q1).set q2).set q3⟩⟩
def fSortedN (xs : List AV) (M : Mem) : Res AV := match xs with
  | [.lst ys] => match intsOf ys with
    | some ns => .ok (.ptr M.length) (M ++ [.lst ((sortI ns).map .int)])
    | none => .bad
  | _ => .bad
theorem js_sortedN (K : PySem.W.Frag) : CaS S (rSortedI K) fSortedN := by
  intro W g F σ H δ M xs vs Q st rs p
  unfold fSortedN at p
  split at p
  · rename_i ys
    obtain ⟨v, rfl, r⟩ := vs_one rs
    cases e : intsOf ys with
    | none => simp only [e] at p; exact p.elim
    | some ns =>
      simp only [e] at p
      obtain ⟨a, us, rfl, hI, rv⟩ := r
      rw [intsOf_eq e] at rv
      rw [repL_ints rv] at hI
      refine ⟨a, ns, rfl, .inl (.inl (st.m.sees _ _ hI)), fun ns' q h1 h2 hq => ?_⟩
      rw [sortI_uniq h1 h2]
      exact new_lst st (repL_ints_of _) p q hq
  · exact p.elim
theorem y_sortedN {e : Expr} {a : AA} {p pos : Pos} (hm : X.mg "sorted" = none) (ha : PA X [e] (tA S W a)) (h : ∀ f r, X.mg "sorted" = none → PA X [e] (tA S W a) → CallR X (.builtin "sorted") r → CaS S r f → PE X (.Call (.Name "sorted" p) [e] [] pos) (tE S W (aCall f a)) := by intro f r h0 ha h1 h2; exact y_blt_call h1 h2 h0 (by decide +kernel) ha) :
    PE X (.Call (.Name "sorted" p) [e] [] pos) (tE S W (aCall fSortedN a)) := h _ _ hm ha cr_sortedI (js_sortedN X.K)
/-- sum of lists, from [] -/
def lsOf : List AV → Option (List (List AV))
  | [] => some []
  | .lst x :: xs => (lsOf xs).map (x :: ·)
  | _ => none
def fSumL (xs : List AV) (M : Mem) : Res AV := match xs with
  | [.lst ys, .lst []] => match lsOf ys with
    | some zs => if zs.flatten.length ≤ lim then .ok (.lst zs.flatten) M else .bad
    | none => .bad
  | _ => .bad
/-- sorted(set(xs)) of ints -/
def dedupS : List Int → List Int
  | [] => []
  | x :: xs => if x ∈ xs then dedupS xs else x :: dedupS xs
def fSortSet (xs : List AV) (M : Mem) : Res AV := match xs with
  | [.lst ys] => match intsOf ys with
    | some ns => if ns.length ≤ 1000 then .ok (.lst ((sortI (dedupS ns)).map .int)) M else .bad
    | none => .bad
  | _ => .bad
end
end Yk
/-! Evaluation of abstract bodies, by rewriting. -/
namespace Yk
open PySem PySem.Spec L2
section
variable {α β : Type} {a b c : AE} {t u : AT} {s1 s2 : AS} {p q : AA} {δ : Sl} {M M1 M2 : Mem} {f : AV → AV → Mem → Res AV} {x y : AV} {xs : List AV}
def Res.two (r : Res AV) (g : Mem → Res AV) (f : AV → AV → Mem → Res AV) : Res AV := r.bind fun x M1 => (g M1).bind fun y M2 => f x y M2
theorem ev_bin : aBin f a b δ M = Res.two (a δ M) (b δ) f := rfl
theorem ev_two {g : Mem → Res AV} : Res.two (.ok x M1) g f = Res.bind (g M1) (f x) := rfl
theorem ev_two_bad {g : Mem → Res AV} : Res.two .bad g f = .bad := rfl
theorem ev_two_exc {g : Mem → Res AV} {e : AX} : Res.two (.exc e M1) g f = .exc e M1 := rfl
theorem ev_bind {r : Res α} {k : α → Mem → Res β} {z : α} (h : r = .ok z M1) : r.bind k = k z M1 := by rw [h]; rfl
theorem ev_b {k : α → Mem → Res β} {z : α} : Res.bind (.ok z M1) k = k z M1 := rfl
theorem ev_bb {k : α → Mem → Res β} : Res.bind .bad k = .bad := rfl
theorem ev_bx {k : α → Mem → Res β} {e : AX} : Res.bind (.exc e M1) k = .exc e M1 := rfl
theorem ev_un {g : AV → Mem → Res AV} : aUn g a δ M = Res.bind (a δ M) g := rfl
theorem ev_var {i : Nat} : aVar i δ M = (match δ[i]? with | some (some x) => .ok x M | _ => .bad) := rfl
theorem ev_v0 {o : Option AV} {d : Sl} : aVar 0 (some x :: d) M = .ok x M := rfl
theorem ev_vs {i : Nat} {o : Option AV} {d : Sl} : aVar (i + 1) (o :: d) M = aVar i d M := rfl
theorem ev_c : aC x δ M = .ok x M := rfl
theorem ev_test : aTest a δ M = Res.bind (a δ M) asBl := rfl
theorem ev_asBl {k : Bool} : asBl (.bl k) M = .ok k M := rfl
def Res.sel (r : Res Bool) (g h : Mem → Res β) : Res β := r.bind fun k M1 => if k = true then g M1 else h M1
theorem sel_t {g h : Mem → Res β} : Res.sel (.ok true M1) g h = g M1 := rfl
theorem sel_f {g h : Mem → Res β} : Res.sel (.ok false M1) g h = h M1 := rfl
theorem sel_b {g h : Mem → Res β} : Res.sel .bad g h = .bad := rfl
theorem sel_x {g h : Mem → Res β} {e : AX} : Res.sel (.exc e M1) g h = .exc e M1 := rfl
theorem ev_and : aAnd t u δ M = Res.sel (t δ M) (u δ) (fun M1 => .ok false M1) := rfl
theorem ev_or : aOr t u δ M = Res.sel (t δ M) (fun M1 => .ok true M1) (u δ) := rfl
theorem ev_not : aNot t δ M = Res.bind (t δ M) fun k M1 => .ok (!k) M1 := rfl
theorem ev_if : aIf t a b δ M = Res.sel (t δ M) (a δ) (b δ) := rfl
def Res.selV (r : Res AV) (g h : Mem → Res AV) : Res AV := r.bind fun x M1 => match x with
  | .bl true => g M1
  | .bl false => h M1
  | _ => .bad
theorem selV_t {g h : Mem → Res AV} : Res.selV (.ok (.bl true) M1) g h = g M1 := rfl
theorem selV_f {g h : Mem → Res AV} : Res.selV (.ok (.bl false) M1) g h = h M1 := rfl
theorem selV_b {g h : Mem → Res AV} : Res.selV .bad g h = .bad := rfl
theorem selV_x {g h : Mem → Res AV} {e : AX} : Res.selV (.exc e M1) g h = .exc e M1 := rfl
theorem ev_andV : aAndV a b δ M = Res.selV (a δ M) (b δ) (fun M1 => .ok (.bl false) M1) := rfl
theorem ev_orV : aOrV a b δ M = Res.selV (a δ M) (fun M1 => .ok (.bl true) M1) (b δ) := rfl
def Res.notV (r : Res AV) : Res AV := r.bind fun x M1 => match x with
  | .bl b => .ok (.bl (!b)) M1
  | _ => .bad
theorem notV_ok {k : Bool} : Res.notV (.ok (.bl k) M1) = .ok (.bl (!k)) M1 := rfl
theorem ev_notV : aNotV a δ M = Res.notV (a δ M) := rfl
def Res.chain (r : Res AV) (gb gc : Mem → Res AV) (f f' : AV → AV → Mem → Res AV) : Res AV := r.bind fun x M1 => (gb M1).bind fun y M2 => (f x y M2).bind fun z M3 => match z with
  | .bl true => (gc M3).bind fun w M4 => f' y w M4
  | .bl false => .ok (.bl false) M3
  | _ => .bad
theorem ev_chain {f' : AV → AV → Mem → Res AV} : aChain f f' a b c δ M = Res.chain (a δ M) (b δ) (c δ) f f' := rfl
def Res.ch2 (r : Res AV) (x : AV) (gc : Mem → Res AV) (f f' : AV → AV → Mem → Res AV) : Res AV := r.bind fun y M2 => (f x y M2).bind fun z M3 => match z with
  | .bl true => (gc M3).bind fun w M4 => f' y w M4
  | .bl false => .ok (.bl false) M3
  | _ => .bad
def Res.ch3 (r : Res AV) (y : AV) (gc : Mem → Res AV) (f' : AV → AV → Mem → Res AV) : Res AV := Res.selV r (fun M3 => (gc M3).bind (f' y)) (fun M3 => .ok (.bl false) M3)
theorem chain_ok {gb gc : Mem → Res AV} {f' : AV → AV → Mem → Res AV} : Res.chain (.ok x M1) gb gc f f' = Res.ch2 (gb M1) x gc f f' := rfl
theorem ch2_ok {gc : Mem → Res AV} {f' : AV → AV → Mem → Res AV} : Res.ch2 (.ok y M1) x gc f f' = Res.ch3 (f x y M1) y gc f' := rfl
theorem ch3_ok {r : Res AV} {gc : Mem → Res AV} {f' : AV → AV → Mem → Res AV} : Res.ch3 r y gc f' = Res.selV r (fun M3 => (gc M3).bind (f' y)) (fun M3 => .ok (.bl false) M3) := rfl
theorem ev_nil : aNil δ M = .ok [] M := rfl
def Res.cons (r : Res AV) (g : Mem → Res (List AV)) : Res (List AV) := r.bind fun x M1 => (g M1).bind fun xs M2 => .ok (x :: xs) M2
def Res.push (x : AV) (r : Res (List AV)) : Res (List AV) := r.bind fun xs M2 => .ok (x :: xs) M2
theorem ev_cons : aCons a p δ M = Res.cons (a δ M) (p δ) := rfl
theorem cons_ok {g : Mem → Res (List AV)} : Res.cons (.ok x M1) g = Res.push x (g M1) := rfl
theorem cons_b {g : Mem → Res (List AV)} : Res.cons .bad g = .bad := rfl
theorem cons_x {g : Mem → Res (List AV)} {e : AX} : Res.cons (.exc e M1) g = .exc e M1 := rfl
theorem push_ok : Res.push x (.ok xs M1) = .ok (x :: xs) M1 := rfl
theorem push_b : Res.push x .bad = .bad := rfl
theorem push_x {e : AX} : Res.push x (.exc e M1) = .exc e M1 := rfl
def mkTup (xs : List AV) (M : Mem) : Res AV := if xs.length ≤ lim then .ok (.tup xs) M else .bad
def mkLst (xs : List AV) (M : Mem) : Res AV := if xs.length ≤ lim then .ok (.lst xs) M else .bad
def mkNew (xs : List AV) (M : Mem) : Res AV := if xs.length ≤ lim then .ok (.ptr M.length) (M ++ [.lst xs]) else .bad
theorem ev_tup : aTup p δ M = Res.bind (p δ M) mkTup := rfl
theorem ev_lst : aLst p δ M = Res.bind (p δ M) mkLst := rfl
theorem ev_new : aNew p δ M = Res.bind (p δ M) mkNew := rfl
theorem mkTup_ok (h : xs.length ≤ 1000) : mkTup xs M = .ok (.tup xs) M := if_pos (by unfold lim; omega)
theorem mkLst_ok (h : xs.length ≤ 1000) : mkLst xs M = .ok (.lst xs) M := if_pos (by unfold lim; omega)
theorem mkNew_ok (h : xs.length ≤ 1000) : mkNew xs M = .ok (.ptr M.length) (M ++ [.lst xs]) := if_pos (by unfold lim; omega)
theorem mkTup2 : mkTup [x, y] M = .ok (.tup [x, y]) M := rfl
theorem mkLst0 : mkLst [] M = .ok (.lst []) M := rfl
theorem mkNew0 : mkNew [] M = .ok (.ptr M.length) (M ++ [.lst []]) := rfl
def frzV (x : AV) (M1 : Mem) : Res AV := match x with
  | .ptr l => match M1[l]? with
    | some (.lst xs) => .ok (.lst xs) (M1.set l .dead)
    | _ => .bad
  | _ => .bad
theorem ev_frz : aFrz a δ M = Res.bind (a δ M) frzV := rfl
theorem frzV_ok {l : Nat} (h : M[l]? = some (.lst xs)) : frzV (.ptr l) M = .ok (.lst xs) (M.set l .dead) := by
  unfold frzV
  simp only [h]
theorem ev_call {g : List AV → Mem → Res AV} : aCall g p δ M = Res.bind (p δ M) g := rfl
def fnV (n : Nat) (fn : AF) (as : List AV) (M : Mem) : Res AV := if as.length = n then fn as M else .bad
theorem ev_fn {n : Nat} {fn : AF} : aFn n fn p δ M = Res.bind (p δ M) (fnV n fn) := rfl
theorem fnV_ok {n : Nat} {fn : AF} (h : xs.length = n) : fnV n fn xs M = fn xs M := if_pos h
theorem fnV1 {fn : AF} : fnV 1 fn [x] M = fn [x] M := rfl
theorem fnV2 {fn : AF} : fnV 2 fn [x, y] M = fn [x, y] M := rfl
theorem fnV3 {fn : AF} {z : AV} : fnV 3 fn [x, y, z] M = fn [x, y, z] M := rfl
def fnK (n : Nat) (fn : AF) (m : Nat) (ix : List Nat) (as : List AV) (M : Mem) : Res AV := if as.length = m then (if (ix.filterMap fun i => as[i]?).length = n then fn (ix.filterMap fun i => as[i]?) M else .bad) else .bad
theorem ev_fnK {n m : Nat} {fn : AF} {ix : List Nat} : aFnK n fn m ix p δ M = Res.bind (p δ M) (fnK n fn m ix) := rfl
theorem fnK2_10 {fn : AF} : fnK 2 fn 2 [1, 0] [x, y] M = fn [y, x] M := rfl
theorem fnK1 {fn : AF} : fnK 1 fn 1 [0] [x] M = fn [x] M := rfl
theorem ev_methL {g : AV → List AV → Mem → Res AV} : aMethL g a p δ M = (a δ M).bind fun x M1 => if isL M1 x = true then (p δ M1).bind fun xs M2 => g x xs M2 else .bad := rfl
def Res.meth (r : Res AV) (h : Mem → Res (List AV)) (g : AV → List AV → Mem → Res AV) : Res AV := r.bind fun x M1 => if isL M1 x = true then (h M1).bind fun xs M2 => g x xs M2 else .bad
theorem ev_meth {g : AV → List AV → Mem → Res AV} : aMethL g a p δ M = Res.meth (a δ M) (p δ) g := rfl
theorem meth_ptr {l : Nat} {g : AV → List AV → Mem → Res AV} {h : Mem → Res (List AV)} (e : M1[l]? = some (.lst xs)) : Res.meth (.ok (.ptr l) M1) h g = (h M1).bind (g (.ptr l)) := by
  show (if isL M1 (.ptr l) = true then _ else _) = _
  have : isL M1 (.ptr l) = true := by
    show (match M1[l]? with | some (.lst _) => true | _ => false) = true
    rw [e]
  rw [if_pos this]
theorem fApp_ok {l : Nat} (e : M[l]? = some (.lst xs)) (h : xs.length < 1000) : fApp (.ptr l) [y] M = .ok .non (M.set l (.lst (xs ++ [y]))) := by
  unfold fApp
  simp only [e]
  rw [if_pos (by unfold lim; omega)]
/-! statements -/
def SRes.seq (r : SRes) (b : AS) : SRes := match r with
  | .nx δ M => b δ M
  | r => r
theorem ev_seq : aSeq s1 s2 δ M = SRes.seq (s1 δ M) s2 := rfl
theorem seq_nx : SRes.seq (.nx δ M) s2 = s2 δ M := rfl
theorem seq_rt : SRes.seq (.rt x M) s2 = .rt x M := rfl
theorem seq_bk : SRes.seq (.bk δ M) s2 = .bk δ M := rfl
theorem seq_ct : SRes.seq (.ct δ M) s2 = .ct δ M := rfl
theorem seq_x {e : AX} : SRes.seq (.exc e δ M) s2 = .exc e δ M := rfl
theorem ev_skip : aSkip δ M = .nx δ M := rfl
def Res.st (r : Res AV) (i : Nat) (δ : Sl) : SRes := r.then δ fun x M1 => .nx (δ.set i (some x)) M1
theorem ev_set {i : Nat} : aSet i a δ M = Res.st (a δ M) i δ := rfl
theorem st_ok {i : Nat} : Res.st (.ok x M1) i δ = .nx (δ.set i (some x)) M1 := rfl
theorem st_x {i : Nat} {e : AX} : Res.st (.exc e M1) i δ = .exc e δ M1 := rfl
def Res.asg (r : Res AV) (t : Tg) (δ : Sl) : SRes := r.then δ fun x M1 => match t.put x δ with
  | some δ1 => .nx δ1 M1
  | none => .bad
theorem ev_asg {t : Tg} : aAsg t a δ M = Res.asg (a δ M) t δ := rfl
theorem asg_ok {t : Tg} {δ1 : Sl} (h : t.put x δ = some δ1) : Res.asg (.ok x M1) t δ = .nx δ1 M1 := by
  show (match t.put x δ with | some δ1 => SRes.nx δ1 M1 | none => .bad) = _
  rw [h]
theorem asg2 {i j : Nat} : Res.asg (.ok (.tup [x, y]) M1) (.tp [.nm i, .nm j]) δ = .nx ((δ.set i (some x)).set j (some y)) M1 := rfl
def Res.par (r : Res (List AV)) (is : List Nat) (δ : Sl) : SRes := r.then δ fun xs M1 => match Tg.puts (is.map Tg.nm) xs δ with
  | some δ1 => .nx δ1 M1
  | none => .bad
theorem ev_par {is : List Nat} : aPar is p δ M = Res.par (p δ M) is δ := rfl
theorem par2 {i j : Nat} : Res.par (.ok [x, y] M1) [i, j] δ = .nx ((δ.set i (some x)).set j (some y)) M1 := rfl
theorem par3 {i j l : Nat} {z : AV} : Res.par (.ok [x, y, z] M1) [i, j, l] δ = .nx (((δ.set i (some x)).set j (some y)).set l (some z)) M1 := rfl
def Res.ex (r : Res AV) (δ : Sl) : SRes := r.then δ fun _ M1 => .nx δ M1
theorem ev_expr : aExpr a δ M = Res.ex (a δ M) δ := rfl
theorem ex_ok : Res.ex (.ok x M1) δ = .nx δ M1 := rfl
theorem ex_x {e : AX} : Res.ex (.exc e M1) δ = .exc e δ M1 := rfl
def Res.ret (r : Res AV) (δ : Sl) : SRes := r.then δ fun x M1 => .rt x M1
theorem ev_ret : aRet a δ M = Res.ret (a δ M) δ := rfl
theorem ret_ok : Res.ret (.ok x M1) δ = .rt x M1 := rfl
theorem ret_x {e : AX} : Res.ret (.exc e M1) δ = .exc e δ M1 := rfl
def Res.ite (r : Res Bool) (δ : Sl) (s1 s2 : AS) : SRes := r.then δ fun k M1 => if k = true then s1 δ M1 else s2 δ M1
theorem ev_ifS : aIfS t s1 s2 δ M = Res.ite (t δ M) δ s1 s2 := rfl
theorem ite_t : Res.ite (.ok true M1) δ s1 s2 = s1 δ M1 := rfl
theorem ite_f : Res.ite (.ok false M1) δ s1 s2 = s2 δ M1 := rfl
theorem ite_x {e : AX} : Res.ite (.exc e M1) δ s1 s2 = .exc e δ M1 := rfl
def Res.it (r : Res (List AV)) (t : Tg) (b : AS) (δ : Sl) : SRes := r.then δ fun xs M1 => forL t b xs δ M1
theorem ev_for {i : AI} {t : Tg} : aFor i t s1 δ M = Res.it (i δ M) t s1 δ := rfl
theorem it_ok {t : Tg} : Res.it (.ok xs M1) t s1 δ = forL t s1 xs δ M1 := rfl
def itL (x : AV) (M1 : Mem) : Res (List AV) := match x with
  | .lst xs => .ok xs M1
  | _ => .bad
theorem ev_itL : aItL a δ M = Res.bind (a δ M) itL := rfl
theorem itL_ok : itL (.lst xs) M = .ok xs M := rfl
open Classical in
noncomputable def itR1 (xs : List AV) (M1 : Mem) : Res (List AV) := match xs with
  | [.int j] => if rngOk j then .ok (rngA 0 j.toNat) M1 else .bad
  | _ => .bad
theorem ev_itR1 : aItR1 p δ M = Res.bind (p δ M) itR1 := rfl
theorem rngOk_le {j : Int} (h0 : -1000000 ≤ j) (h : j ≤ 1000000) : rngOk j := by
  unfold rngOk
  omega
theorem itR1_ok {j : Int} (h0 : -1000000 ≤ j) (h : j ≤ 1000000) : itR1 [.int j] M = .ok (rngA 0 j.toNat) M := if_pos (rngOk_le h0 h)
open Classical in
noncomputable def itR2 (xs : List AV) (M1 : Mem) : Res (List AV) := match xs with
  | [.int i, .int j] => if rngOk i ∧ rngOk j then .ok (rngA i (j - i).toNat) M1 else .bad
  | _ => .bad
theorem ev_itR2 : aItR2 p δ M = Res.bind (p δ M) itR2 := rfl
theorem itR2_ok {i j : Int} (h0 : -1000000 ≤ j) (h : j ≤ 1000000) (h1 : -1000000 ≤ i) (h2 : i ≤ 1000000) : itR2 [.int i, .int j] M = .ok (rngA i (j - i).toNat) M := if_pos ⟨rngOk_le h1 h2, rngOk_le h0 h⟩
def itE (xs : List AV) (M1 : Mem) : Res (List AV) := match xs with
  | [.lst ys] => .ok (enumA ys) M1
  | _ => .bad
theorem ev_itE : aItE p δ M = Res.bind (p δ M) itE := rfl
theorem itE_ok : itE [.lst xs] M = .ok (enumA xs) M := rfl
def itZ (xs : List AV) (M1 : Mem) : Res (List AV) := match xs with
  | [.lst ys, .lst zs] => .ok (List.zipWith (fun y z => AV.tup [y, z]) ys zs) M1
  | _ => .bad
theorem ev_itZ : aItZ p δ M = Res.bind (p δ M) itZ := rfl
theorem itZ_ok {ys : List AV} : itZ [.lst xs, .lst ys] M = .ok (List.zipWith (fun y z => AV.tup [y, z]) xs ys) M := rfl
/-! comprehensions over items, whose element changes the store in no way, or step by step -/
def lcV (r : Res (List AV)) : Res AV := r.bind fun ys M2 => .ok (.lst ys) M2
def lcVN (r : Res (List AV)) : Res AV := r.bind fun ys M2 => .ok (.ptr M2.length) (M2 ++ [.lst ys])
def Res.lc (r : Res (List AV)) (δ : Sl) (own : List Nat) (t : Tg) (u : AT) (a : AE) : Res (List AV) := r.bind fun xs M1 => lcL t u a (wipeA δ own) xs [] M1
theorem ev_lc {i : AI} {own : List Nat} {t : Tg} : aLc i own t u a δ M = lcV (Res.lc (i δ M) δ own t u a) := by
  unfold aLc lcV Res.lc
  cases i δ M <;> rfl
theorem ev_lcN {i : AI} {own : List Nat} {t : Tg} : aLcN i own t u a δ M = lcVN (Res.lc (i δ M) δ own t u a) := by
  unfold aLcN lcVN Res.lc
  cases i δ M <;> rfl
theorem lc_ok {own : List Nat} {t : Tg} : Res.lc (.ok xs M1) δ own t u a = lcL t u a (wipeA δ own) xs [] M1 := rfl
theorem lcV_ok : lcV (.ok xs M1) = .ok (.lst xs) M1 := rfl
theorem lcVN_ok : lcVN (.ok xs M1) = .ok (.ptr M1.length) (M1 ++ [.lst xs]) := rfl
/-- a map: no test, the store stays -/
theorem lcL_map {γ : Type} {t : Tg} {g : γ → AV} {h : γ → AV} {l : List γ} (ht : ∀ z ∈ l, ∃ δ1, t.put (g z) δ = some δ1 ∧ ∀ M, a δ1 M = .ok (h z) M) : ∀ (acc : List AV), acc.length + l.length ≤ 100000 → ∀ M, lcL t aYes a δ (l.map g) acc M = .ok (acc ++ l.map h) M := by
  induction l with
  | nil => intro acc _ M; rw [List.map_nil, List.map_nil, List.append_nil]; rfl
  | cons z l ih =>
    intro acc hl M
    obtain ⟨δ1, e1, e2⟩ := ht z List.mem_cons_self
    rw [List.map_cons]
    unfold lcL
    simp only [e1, aYes, e2]
    rw [List.length_cons] at hl
    rw [if_pos (by unfold lim; omega), ih (fun y hy => ht y (List.mem_cons_of_mem _ hy)) _ (by rw [List.length_append, List.length_singleton]; omega)]
    rw [List.append_assoc]
    rfl
/-- the store goes through a state σ -/
theorem lcL_st {γ τ : Type} {t : Tg} {g : γ → AV} {l : List γ} (E : τ → Mem) (step : τ → γ → AV × τ) (ht : ∀ z ∈ l, ∀ q, ∃ δ1, t.put (g z) δ = some δ1 ∧ a δ1 (E q) = .ok (step q z).1 (E (step q z).2)) :
    ∀ (acc : List AV) (q : τ), acc.length + l.length ≤ 100000 → lcL t aYes a δ (l.map g) acc (E q) = .ok ((l.foldl (fun s z => (s.1 ++ [(step s.2 z).1], (step s.2 z).2)) (acc, q)).1) (E (l.foldl (fun s z => (s.1 ++ [(step s.2 z).1], (step s.2 z).2)) (acc, q)).2) := by
  induction l with
  | nil => intro acc q _; rfl
  | cons z l ih =>
    intro acc q hl
    obtain ⟨δ1, e1, e2⟩ := ht z List.mem_cons_self q
    rw [List.map_cons]
    unfold lcL
    simp only [e1, aYes, e2]
    rw [List.length_cons] at hl
    rw [if_pos (by unfold lim; omega), ih (fun y hy => ht y (List.mem_cons_of_mem _ hy)) _ _ (by rw [List.length_append, List.length_singleton]; omega)]
    rfl
/-- a filter of ints, and so on: the test and the element leave the store -/
theorem lcL_filter {γ : Type} {t : Tg} {g : γ → AV} {h : γ → AV} {k : γ → Bool} {l : List γ} (ht : ∀ z ∈ l, ∃ δ1, t.put (g z) δ = some δ1 ∧ ∀ M, u δ1 M = .ok (k z) M ∧ a δ1 M = .ok (h z) M) : ∀ (acc : List AV), acc.length + l.length ≤ 100000 → ∀ M, lcL t u a δ (l.map g) acc M = .ok (acc ++ (l.filter k).map h) M := by
  induction l with
  | nil => intro acc _ M; rw [List.map_nil, List.filter_nil, List.map_nil, List.append_nil]; rfl
  | cons z l ih =>
    intro acc hl M
    obtain ⟨δ1, e1, e2⟩ := ht z List.mem_cons_self
    rw [List.map_cons]
    unfold lcL
    simp only [e1, (e2 M).1]
    rw [List.length_cons] at hl
    cases hk : k z with
    | false =>
      simp only
      rw [ih (fun y hy => ht y (List.mem_cons_of_mem _ hy)) _ (by omega), List.filter_cons_of_neg (by rw [hk]; exact Bool.false_ne_true)]
    | true =>
      simp only [(e2 M).2]
      rw [if_pos (by unfold lim; omega), ih (fun y hy => ht y (List.mem_cons_of_mem _ hy)) _ (by rw [List.length_append, List.length_singleton]; omega), List.filter_cons_of_pos hk]
      rw [List.append_assoc]
      rfl
/-! loops -/
/-- a for whose body goes on: slots and store are given by a state -/
theorem forL_st {γ τ : Type} {t : Tg} {g : γ → AV} {b : AS} (D : τ → Sl) (E : τ → Mem) (step : τ → γ → τ) {l : List γ} (h : ∀ z ∈ l, ∀ q, ∃ δ1, t.put (g z) (D q) = some δ1 ∧ b δ1 (E q) = .nx (D (step q z)) (E (step q z))) :
    ∀ q, forL t b (l.map g) (D q) (E q) = .nx (D (l.foldl step q)) (E (l.foldl step q)) := by
  induction l with
  | nil => intro q; rfl
  | cons z l ih =>
    intro q
    obtain ⟨δ1, e1, e2⟩ := h z List.mem_cons_self q
    rw [List.map_cons]
    unfold forL
    simp only [e1, e2]
    exact ih (fun y hy => h y (List.mem_cons_of_mem _ hy)) _
theorem forL_nil {t : Tg} {b : AS} : forL t b [] δ M = .nx δ M := rfl
def loopK (r : SRes) (k : AS) : SRes := match r with
  | .nx δ M => k δ M
  | .ct δ M => k δ M
  | .bk δ M => .nx δ M
  | r => r
theorem forL_cons {t : Tg} {b : AS} {δ1 : Sl} (h : t.put x δ = some δ1) : forL t b (x :: xs) δ M = loopK (b δ1 M) (forL t b xs) := by
  conv => lhs; unfold forL
  simp only [h]
  unfold loopK
  cases b δ1 M <;> rfl
theorem while_f {n : Nat} (h : t δ M = .ok false M1) : aWhile t s1 (n + 1) δ M = .nx δ M1 := by
  show (t δ M).then δ _ = _
  rw [h]
  rfl
theorem while_nx {n : Nat} {δ2 : Sl} (h : t δ M = .ok true M1) (h2 : s1 δ M1 = .nx δ2 M2) : aWhile t s1 (n + 1) δ M = aWhile t s1 n δ2 M2 := by
  show (t δ M).then δ _ = _
  rw [h]
  show (if true = true then (match s1 δ M1 with | .nx δ2 M2 => aWhile t s1 n δ2 M2 | .ct δ2 M2 => aWhile t s1 n δ2 M2 | .bk δ2 M2 => .nx δ2 M2 | r => r) else .nx δ M1) = _
  rw [if_pos rfl, h2]
theorem while_rt {n : Nat} (h : t δ M = .ok true M1) (h2 : s1 δ M1 = .rt x M2) : aWhile t s1 (n + 1) δ M = .rt x M2 := by
  show (t δ M).then δ _ = _
  rw [h]
  show (if true = true then (match s1 δ M1 with | .nx δ2 M2 => aWhile t s1 n δ2 M2 | .ct δ2 M2 => aWhile t s1 n δ2 M2 | .bk δ2 M2 => .nx δ2 M2 | r => r) else .nx δ M1) = _
  rw [if_pos rfl, h2]
end
/-! ints -/
section
variable {i j : Int} {M : Mem}
theorem ev_add : fAdd (.int i) (.int j) M = .ok (.int (i + j)) M := rfl
theorem ev_sub : fSub (.int i) (.int j) M = .ok (.int (i - j)) M := if_pos trivial
theorem ev_lt : fLt (.int i) (.int j) M = .ok (.bl (decide (i < j))) M := if_pos trivial
theorem ev_le : fLe (.int i) (.int j) M = .ok (.bl (decide (i ≤ j))) M := if_pos trivial
theorem ev_gt : fGt (.int i) (.int j) M = .ok (.bl (decide (j < i))) M := if_pos trivial
theorem ev_ge : fGe (.int i) (.int j) M = .ok (.bl (decide (j ≤ i))) M := if_pos trivial
theorem ev_mod (h : 0 < j) : fMod (.int i) (.int j) M = .ok (.int (i % j)) M := if_pos h
theorem big_of {i : Int} (h : i.natAbs < 2 ^ 512) : big i := Nat.lt_of_lt_of_le h (Nat.pow_le_pow_right (by decide) (by decide))
theorem ev_div (h : 0 < j) (hb : j.natAbs < 2 ^ 512) : fDiv (.int i) (.int j) M = .ok (.int (i / j)) M := if_pos ⟨h, big_of hb⟩
theorem ev_mul (h : i.natAbs < 2 ^ 512) (hb : j.natAbs < 2 ^ 512) : fMul (.int i) (.int j) M = .ok (.int (i * j)) M := if_pos ⟨big_of h, big_of hb⟩
theorem ev_neg : fNeg (.int i) M = .ok (.int (-i)) M := rfl
theorem sh_int : SeqAt.shaped (.int i) = true := by
  unfold SeqAt.shaped
  simp [PyData.canLay0, PyData.depth]
theorem ev_eqI {neg : Bool} : fEqv neg (.int i) (.int j) M = .ok (.bl (if neg = true then !decide (i = j) else decide (i = j))) M := by
  show (if (SeqAt.shaped (.int i) && SeqAt.shaped (.int j)) = true then Res.ok (AV.bl (if neg = true then !PyData.eqv (.int i) (.int j) else PyData.eqv (.int i) (.int j))) M else .bad) = _
  rw [sh_int, sh_int, if_pos (by rfl)]
  have : PyData.eqv (.int i) (.int j) = decide (i = j) := by
    unfold PyData.eqv
    exact Bool.beq_eq_decide_eq i j
  rw [this]
theorem ev_eqS {neg : Bool} {a b : Str} : fEqv neg (.str a) (.str b) M = .ok (.bl (if neg = true then !decide (a = b) else decide (a = b))) M := rfl
theorem ev_int : fInt [.int i] M = .ok (.int i) M := rfl
theorem ev_int_b {b : Bool} : fInt [.bl b] M = .ok (.int (if b then 1 else 0)) M := rfl
theorem ev_min2 : fMin2 [.int i, .int j] M = .ok (.int (if j < i then j else i)) M := rfl
theorem ev_len_l {xs : List AV} : fLen [.lst xs] M = .ok (.int xs.length) M := rfl
theorem ev_len_t {xs : List AV} : fLen [.tup xs] M = .ok (.int xs.length) M := rfl
theorem ev_len_p {xs : List AV} {l : Nat} (h : M[l]? = some (.lst xs)) : fLen [.ptr l] M = .ok (.int xs.length) M := by
  unfold fLen itemsOf
  simp only [h]
theorem atI_nn {α : Type} {xs : List α} {z : α} (h : 0 ≤ i) (e : xs[i.toNat]? = some z) : atI xs i = some z := by
  have hl := (List.getElem?_eq_some_iff.mp e).1
  unfold atI ixN
  rw [if_pos h, if_pos (by omega)]
  exact e
theorem ev_ix_l {xs : List AV} {z : AV} (h : 0 ≤ i) (e : xs[i.toNat]? = some z) : fIx (.lst xs) (.int i) M = .ok z M := by
  unfold fIx itemsOf
  simp only [atI_nn h e]
theorem ev_ix_t {xs : List AV} {z : AV} (h : 0 ≤ i) (e : xs[i.toNat]? = some z) : fIx (.tup xs) (.int i) M = .ok z M := by
  unfold fIx itemsOf
  simp only [atI_nn h e]
theorem ev_ix_p {xs : List AV} {z : AV} {l : Nat} (hm : M[l]? = some (.lst xs)) (h : 0 ≤ i) (e : xs[i.toNat]? = some z) : fIx (.ptr l) (.int i) M = .ok z M := by
  unfold fIx itemsOf
  simp only [hm, atI_nn h e]
end
/-! ### what a def has made for itself is forgotten, where that can be -/
def trim (n : Nat) : Res AV → Res AV
  | .bad => .bad
  | .ok x M => .ok x (M.take n)
  | .exc x M => .exc x (M.take n)
open Classical in
noncomputable def clean (body : AF) : AF := fun as M => if Cln M (body as M) (trim M.length (body as M)) then trim M.length (body as M) else body as M
theorem clean_spec {S : Sy} {n : Nat} {body : AF} : ∀ vs H Q E, spec S n (clean body) vs H Q E → spec S n body vs H Q E := by
  rintro vs H Q E ⟨g, F, as, M, st, ra, hl, p⟩
  by_cases h : Cln M (body as M) (trim M.length (body as M))
  · have e : clean body as M = trim M.length (body as M) := if_pos h
    refine spec_imp (fn' := fun as' M' => open Classical in if as' = as ∧ M' = M then trim M.length (body as M) else .bad) (fun as' M' _ => ?_) vs H Q E ⟨g, F, as, M, st, ra, hl, ?_⟩
    · by_cases h2 : as' = as ∧ M' = M
      · obtain ⟨rfl, rfl⟩ := h2
        rw [if_pos ⟨rfl, rfl⟩]
        exact h
      · rw [if_neg h2]
        exact .bad
    · show PoF S E F g (open Classical in if as = as ∧ M = M then trim M.length (body as M) else .bad) Q
      rw [if_pos ⟨rfl, rfl⟩, ← e]
      exact p
  · have e : clean body as M = body as M := if_neg h
    exact ⟨g, F, as, M, st, ra, hl, e ▸ p⟩
theorem clean_ok {body : AF} {as : List AV} {M M' G : Mem} {x : AV} (h : body as M = .ok x (M' ++ G)) (hl : M'.length = M.length) (c : Cl M M') (hx : x.cl M.length = true) : clean body as M = .ok x M' := by
  have e : trim M.length (body as M) = .ok x M' := by
    rw [h, ← hl]
    show Res.ok x ((M' ++ G).take M'.length) = _
    rw [List.take_left]
  have k : Cln M (body as M) (trim M.length (body as M)) := by
    rw [e, h]
    exact .ok c (by rw [hl]; exact hx)
  have : clean body as M = trim M.length (body as M) := if_pos k
  rw [this, e]
theorem clean_exc {body : AF} {as : List AV} {M M' G : Mem} {x : AX} (h : body as M = .exc x (M' ++ G)) (hl : M'.length = M.length) (c : Cl M M') (hx : ∀ a, x.arg = some a → a.cl M.length = true) : clean body as M = .exc x M' := by
  have e : trim M.length (body as M) = .exc x M' := by
    rw [h, ← hl]
    show Res.exc x ((M' ++ G).take M'.length) = _
    rw [List.take_left]
  have k : Cln M (body as M) (trim M.length (body as M)) := by
    rw [e, h]
    exact .exc c (by rw [hl]; exact hx)
  have : clean body as M = trim M.length (body as M) := if_pos k
  rw [this, e]
/-- the body leaves the store as it is -/
theorem clean_pure {body : AF} {as : List AV} {M : Mem} {x : AV} (h : body as M = .ok x M) (hx : x.cl M.length = true) : clean body as M = .ok x M :=
  clean_ok (G := []) (by rw [List.append_nil]; exact h) rfl (.refl M) hx
/-- .. but for what it has made -/
theorem clean_made {body : AF} {as : List AV} {M G : Mem} {x : AV} (h : body as M = .ok x (M ++ G)) (hx : x.cl M.length = true) : clean body as M = .ok x M := clean_ok h rfl (.refl M) hx
theorem outF_nx {δ : Sl} {M : Mem} : outF (.nx δ M) = .ok .non M := rfl
theorem outF_rt {x : AV} {M : Mem} : outF (.rt x M) = .ok x M := rfl
theorem outF_exc {x : AX} {δ : Sl} {M : Mem} : outF (.exc x δ M) = .exc x M := rfl
theorem isi_tab {t c : String} {b : Bool} (h : ((t, c), b) ∈ isiTab) : isiOf t c = some b := by
  have : ∀ p ∈ isiTab, isiOf p.1.1 p.1.2 = some p.2 := by decide +kernel
  exact this _ h
section
variable {i : Int} {b : Bool} {x : Str} {xs : List AV} {l : Nat} {M : Mem}
theorem isi_int_int : fIsi [.int i, .raw (.ty "int")] M = .ok (.bl true) M := by unfold fIsi tyA; simp only [isi_tab (t := "int") (c := "int") (b := true) (by decide)]
theorem isi_int_bool : fIsi [.int i, .raw (.ty "bool")] M = .ok (.bl false) M := by unfold fIsi tyA; simp only [isi_tab (t := "int") (c := "bool") (b := false) (by decide)]
theorem isi_int_list : fIsi [.int i, .raw (.ty "list")] M = .ok (.bl false) M := by unfold fIsi tyA; simp only [isi_tab (t := "int") (c := "list") (b := false) (by decide)]
theorem isi_int_tuple : fIsi [.int i, .raw (.ty "tuple")] M = .ok (.bl false) M := by unfold fIsi tyA; simp only [isi_tab (t := "int") (c := "tuple") (b := false) (by decide)]
theorem isi_bl_int : fIsi [.bl b, .raw (.ty "int")] M = .ok (.bl true) M := by unfold fIsi tyA; simp only [isi_tab (t := "bool") (c := "int") (b := true) (by decide)]
theorem isi_bl_bool : fIsi [.bl b, .raw (.ty "bool")] M = .ok (.bl true) M := by unfold fIsi tyA; simp only [isi_tab (t := "bool") (c := "bool") (b := true) (by decide)]
theorem isi_lst_list : fIsi [.lst xs, .raw (.ty "list")] M = .ok (.bl true) M := by unfold fIsi tyA; simp only [isi_tab (t := "list") (c := "list") (b := true) (by decide)]
theorem isi_lst_int : fIsi [.lst xs, .raw (.ty "int")] M = .ok (.bl false) M := by unfold fIsi tyA; simp only [isi_tab (t := "list") (c := "int") (b := false) (by decide)]
theorem isi_tup_tuple : fIsi [.tup xs, .raw (.ty "tuple")] M = .ok (.bl true) M := by unfold fIsi tyA; simp only [isi_tab (t := "tuple") (c := "tuple") (b := true) (by decide)]
theorem ev_all_l {bs : List Bool} (h : blsOf xs = some bs) : fAll [.lst xs] M = .ok (.bl (bs.all fun b => b)) M := by
  unfold fAll
  simp only [h]
  rfl
end
/-- .. a new thing is handed back: all stays -/
theorem clean_keep {body : AF} {as : List AV} {M M' : Mem} {x : AV} (h : body as M = .ok x M') (hx : x.cl M.length = false) : clean body as M = .ok x M' := by
  have k : ¬ Cln M (body as M) (trim M.length (body as M)) := fun c => by
    rw [h] at c
    have c' : Cln M (.ok x M') (.ok x (M'.take M.length)) := c
    generalize hz : M'.take M.length = Z at c'
    cases c' with
    | ok c1 c2 =>
      have hl : Z.length ≤ M.length := by
        rw [← hz, List.length_take]
        omega
      have : Z.length = M.length := Nat.le_antisymm hl c1.len
      rw [this, hx] at c2
      cases c2
  have : clean body as M = body as M := if_neg k
  rw [this, h]
theorem nat_lo {n : Nat} : (-1000000 : Int) ≤ (n : Int) := by omega
theorem nat_hi {n : Nat} (h : n ≤ 100000) : (n : Int) ≤ 1000000 := by omega
theorem itR1_nat {n : Nat} {M : Mem} (h : n ≤ 100000) : itR1 [.int (n : Int)] M = .ok (rngA 0 n) M := itR1_ok nat_lo (nat_hi h)
theorem itR2_nat {n k : Nat} {M : Mem} (h : n ≤ 100000) (h2 : k ≤ 100000) : itR2 [.int (k : Int), .int (n : Int)] M = .ok (rngA k (n - k)) M := by
  rw [show n - k = ((n : Int) - (k : Int)).toNat by omega]
  exact itR2_ok nat_lo (nat_hi h) nat_lo (nat_hi h2)
end Yk
/-! sum(lists, []) and sorted(set(ints)). -/
namespace Yk
open PySem PySem.Spec L2 PyProof.Rows
/-- what stays from s to s2 -/
structure Kp (s s2 : Shared) : Prop where
  hp : ∀ b o, s.heap.get? b = some o → s2.heap.get? b = some o
  gens : s2.gens = s.gens
  os : s2.os = s.os
section
variable {P : Program} {w : World} {A : Around} {R : Result → Shared → Prop}
/-- the list at b, with the items ys -/
def Lat (h : Heap) (b : Addr) (ys : List Value) : Prop := ∃ n, IsL h b ys.toArray n
theorem Lat.kp {s s2 : Shared} {b : Addr} {ys : List Value} (x : Lat s.heap b ys) (k : Kp s s2) : Lat s2.heap b ys := x.elim fun n e => ⟨n, k.hp b _ e⟩
theorem sumL_loop {I l S : Addr} {its : Array Value} {bs : List (Addr × List Value)} (W : WalksS P w A.in1 I [I, l] [I] (fun a b => b = a) its.size (fun i v => its[i]? = some v) (fun i s => s.heap.IsListIter I l i ∧ s.heap.IsList l its)) (hb : its.toList = bs.map fun p => Value.ref p.1) (hSI : S ≠ I) (hSl : S ≠ l)
    (hz : ∀ i, ((bs.take i).map (·.2)).flatten.length ≤ sizeLine) (s0 : Shared) (hS0 : s0.heap.objs.size ≤ S) (hI0 : s0.heap.objs.size ≤ I) (hL : ∀ p ∈ bs, Lat s0.heap p.1 p.2) (T0 : Addr)
    (hR : ∀ s2 T, Kp s0 s2 → Lat s2.heap T ((bs.map (·.2)).flatten) → ((bs = [] ∧ T = T0) ∨ s0.heap.objs.size ≤ T) → R (.ok (.ret (.ref T))) s2) :
    ∀ (k i : Nat) (s : Shared) (T : Addr) (c : Nat), its.size - i = k → i ≤ its.size → (s.heap.IsListIter I l i ∧ s.heap.IsList l its) → Kp s0 s → s.heap.get? S = some { cls := .type "list", dict := none, data := .seq #[.ref T] c, slots := #[] } →
      Lat s.heap T (((bs.take i).map (·.2)).flatten) → T ≠ S → T ≠ I → ((i = 0 ∧ T = T0) ∨ s0.heap.objs.size ≤ T) → codeAny (model P w) A (.builtin "sum.loop" ⟨[.ref I, .ref S, rawInt 2, rawInt 0], []⟩) R s := by
  have hlen : its.size = bs.length := by rw [← Array.length_toList, hb, List.length_map]
  have hSf : S ∉ [I] := by simpa using hSI
  intro k
  induction k with
  | zero =>
    intro i s T c e1 e2 st kp hS hT t1 t2 t3
    obtain rfl : i = its.size := by omega
    refine codeAny_builtin F.entry_sum_loop ?_
    rw [Around.under_plainId F.plain_sum_loop _]
    show wpAny _ A.in1 (seqItems? (.ref S) >>= _) _ _ s
    refine wpAny_bind (wpAny_seqItems hS rfl (wpAny_bind (wpAny_tryCatch (W.done s _ _ st fun s2 hm => wpAny_pure (hR s2 T ?_ ?_ ?_)))))
    · exact ⟨fun b o e => hm.heap b o (fun z => by
        obtain rfl := List.mem_singleton.mp z
        exact Nat.lt_irrefl _ (Nat.lt_of_lt_of_le (Heap.lt_size e) hI0)) (kp.hp b o e), hm.gens.trans kp.gens, hm.os.trans kp.os⟩
    · rw [hlen, List.take_length] at hT
      exact hT.elim fun n e => ⟨n, hm.heap T _ (by simpa using t2) e⟩
    · exact t3.imp (fun q => ⟨List.eq_nil_of_length_eq_zero (by rw [← hlen]; exact q.1), q.2⟩) id
  | succ k ih =>
    intro i s T c e1 e2 st kp hS hT t1 t2 t3
    have hlt : i < its.size := by omega
    have hlt2 : i < bs.length := by omega
    refine codeAny_builtin F.entry_sum_loop ?_
    rw [Around.under_plainId F.plain_sum_loop _]
    show wpAny _ A.in1 (seqItems? (.ref S) >>= _) _ _ s
    refine wpAny_bind (wpAny_seqItems hS rfl (wpAny_bind (wpAny_tryCatch (W.item i s _ _ hlt st fun v s2 hv st2 hm => ?_))))
    have ev : v = .ref (bs[i]).1 := by
      have q : its.toList[i]? = some v := by rw [Array.getElem?_toList]; exact hv
      rw [hb, List.getElem?_map, List.getElem?_eq_getElem hlt2] at q
      exact (Option.some.inj q).symm
    subst ev
    have k2 : Kp s0 s2 := ⟨fun b o e => hm.heap b o (fun z => by
        obtain rfl := List.mem_singleton.mp z
        exact Nat.lt_irrefl _ (Nat.lt_of_lt_of_le (Heap.lt_size e) hI0)) (kp.hp b o e), hm.gens.trans kp.gens, hm.os.trans kp.os⟩
    have hS2 := hm.heap S _ hSf hS
    obtain ⟨n1, hT1⟩ := hT
    have hT2 := hm.heap T _ (by simpa using t2) hT1
    obtain ⟨n2, hB⟩ := (hL bs[i] (List.getElem_mem hlt2)).kp k2
    have hnx : ((bs.take (i + 1)).map (·.2)).flatten = ((bs.take i).map (·.2)).flatten ++ (bs[i]).2 := by
      rw [List.take_add_one, List.getElem?_eq_getElem hlt2, List.map_append, List.flatten_append]
      show _ ++ ([bs[i]].map (·.2)).flatten = _
      rw [List.map_singleton, List.flatten_singleton]
    have hzz := hz (i + 1)
    rw [hnx, List.length_append] at hzz
    show wpAny _ A.in1 ((holding [Value.ref (bs[i]).1] (binaryOp .Add (.ref T) (.ref (bs[i]).1))).attempt >>= _) _ _ _
    refine wpAny_bind (wpAny_attempt (wpAny_holding (PySem.P.add_list hT2 hB ?_ (by rw [List.size_toArray, List.size_toArray]; exact hzz))))
    have hlS : S < s2.heap.objs.size := Heap.lt_size hS2
    have hlI : I < s2.heap.objs.size := st2.1.elim fun _ q => Heap.lt_size q.1
    have hg : s0.heap.objs.size ≤ s2.heap.objs.size := Nat.le_trans hS0 (Nat.le_of_lt hlS)
    have o1 : ∀ b o, s2.heap.get? b = some o → (s2.heap.push { cls := .type "list", data := .seq ((((bs.take i).map (·.2)).flatten).toArray ++ ((bs[i]).2).toArray) }).get? b = some o := fun b o e => Heap.get?_push_of_some _ e
    have ea : (((bs.take i).map (·.2)).flatten).toArray ++ ((bs[i]).2).toArray = (((bs.take (i + 1)).map (·.2)).flatten).toArray := by rw [hnx]; simp
    rw [ea] at o1 ⊢
    have hnew : (s2.heap.push { cls := .type "list", data := .seq (((bs.take (i + 1)).map (·.2)).flatten).toArray }).get? s2.heap.objs.size = some { cls := .type "list", data := .seq (((bs.take (i + 1)).map (·.2)).flatten).toArray } := Heap.get?_push_size _ rfl
    generalize s2.heap.push { cls := .type "list", data := .seq (((bs.take (i + 1)).map (·.2)).flatten).toArray } = h3 at o1 hnew ⊢
    show wpAny _ A.in1 (updateSeq S (fun _ => #[.ref s2.heap.objs.size]) >>= _) _ _ _
    refine wpAny_bind (wpAny_updateSeq (o1 S _ hS2) rfl ?_ (by show 1 ≤ _; decide) (by show 1 ≤ _; decide))
    have hS4 := Heap.get?_update_self (Obj.mapSeq fun _ => #[Value.ref s2.heap.objs.size]) (o1 S _ hS2) rfl
    refine wpAny_bind (wpAny_letGo ?_)
    refine wpAny_bind (wpAny_updateSeq hS4 rfl ?_ (by show 1 ≤ _; decide) (by show 1 ≤ _; decide))
    have hS5 := Heap.get?_update_self (Obj.mapSeq fun _ => #[Value.ref s2.heap.objs.size]) hS4 rfl
    have o2 : ∀ b o, b ≠ S → h3.get? b = some o → ((h3.update S (Obj.mapSeq fun _ => #[Value.ref s2.heap.objs.size])).update S (Obj.mapSeq fun _ => #[Value.ref s2.heap.objs.size])).get? b = some o := fun b o hb e => by
      rw [Heap.get?_update_ne _ _ _ _ hb, Heap.get?_update_ne _ _ _ _ hb]
      exact e
    refine wpAny_pure ⟨plainId_quiet F.plain_sum_loop _, ih (i + 1) _ s2.heap.objs.size _ (by omega) hlt ?_ ?_ hS5 ?_ (Nat.ne_of_gt hlS) (Nat.ne_of_gt hlI) (.inr hg)⟩
    · exact ⟨st2.1.at fun o e => o2 _ _ (Ne.symm hSI) (o1 _ _ e), st2.2.at fun o e => o2 _ _ (Ne.symm hSl) (o1 _ _ e)⟩
    · exact ⟨fun b o e => o2 b o (fun z => by
        subst z
        exact Nat.lt_irrefl _ (Nat.lt_of_lt_of_le (Heap.lt_size e) hS0)) (o1 b o (k2.hp b o e)), k2.gens, k2.os⟩
    · exact ⟨0, o2 _ _ (Nat.ne_of_gt hlS) hnew⟩
theorem args_sum2 (a b : Value) : argsOk "sum" ⟨[a, b], []⟩ := by unfold argsOk; kernel_rfl
theorem call_sumL {E : Value → Shared → Prop} {s : Shared} {l T0 : Addr} {its : Array Value} {bs : List (Addr × List Value)} {Q : Value → Shared → Prop} (hh : A.handled = none) (hl : s.heap.IsList l its) (hb : its.toList = bs.map fun p => Value.ref p.1) (hT0 : Lat s.heap T0 [])
    (hz : ((bs.map (·.2)).flatten).length ≤ sizeLine) (hL : ∀ p ∈ bs, Lat s.heap p.1 p.2)
    (hQ : ∀ s2 T, Kp s s2 → Lat s2.heap T ((bs.map (·.2)).flatten) → ((bs = [] ∧ T = T0) ∨ s.heap.objs.size ≤ T) → Q (.ref T) s2) : wpAny (model P w) A (call (.builtin "sum") [.ref l, .ref T0]) Q E s := by
  refine call_function_tree F.kind_sum F.plain_sum F.entry_sum (args_sum2 _ _) ?_
  obtain ⟨n0, hT⟩ := hT0
  obtain ⟨ol, hol, hcl, nl, hdl⟩ := id hl
  have hT0lt : T0 < s.heap.objs.size := Heap.lt_size hT
  have hllt : l < s.heap.objs.size := Heap.lt_size hol
  unfold Builtin.«sum»
  simp only [List.length_cons, List.length_nil]
  rw [if_neg (by decide)]
  refine wpAny_bind (wpAny_of_eq (show Builtin.Builtins.bindParams "sum" ["start"] 0 ⟨[.ref T0], []⟩ = pure [some (.ref T0)] from rfl) (wpAny_bind (wpAny_pyIter_list hl ?_)))
  have o1 : ∀ b o, s.heap.get? b = some o → (s.heap.push { cls := .type "list_iterator", data := .fields #[.ref l, .int 0 0] }).get? b = some o := fun b o e => Heap.get?_push_of_some _ e
  have hty : Shared.TypeIs { s with heap := s.heap.push { cls := .type "list_iterator", data := .fields #[.ref l, .int 0 0] } } (.ref T0) "list" := ⟨_, o1 _ _ hT, rfl⟩
  have hit : (s.heap.push { cls := .type "list_iterator", data := .fields #[.ref l, .int 0 0] }).IsListIter s.heap.objs.size l 0 := ⟨_, Heap.get?_push_size _ rfl, rfl, rfl⟩
  have hsz : (s.heap.push { cls := .type "list_iterator", data := .fields #[.ref l, .int 0 0] }).objs.size = s.heap.objs.size + 1 := Heap.size_push ..
  generalize s.heap.push { cls := .type "list_iterator", data := .fields #[.ref l, .int 0 0] } = h1 at o1 hty hit hsz ⊢
  refine wpAny_bind (wpAny_pure ?_)
  simp only [List.forIn_cons, List.forIn_nil]
  refine wpAny_bind (wpAny_bind (wpAny_bind (wpAny_isInstance (b := false) hty F.sub_list_str ?_)))
  simp only [Bool.false_eq_true, if_false]
  refine wpAny_pure (wpAny_bind (wpAny_bind (wpAny_isInstance (b := false) hty F.sub_list_bytes ?_)))
  simp only [Bool.false_eq_true, if_false]
  refine wpAny_pure (wpAny_bind (wpAny_bind (wpAny_isInstance (b := false) hty F.sub_list_bytearray ?_)))
  simp only [Bool.false_eq_true, if_false]
  refine wpAny_pure (wpAny_pure (wpAny_bind (wpAny_newObj_type ?_)))
  have o2 : ∀ b o, s.heap.get? b = some o → (h1.push { cls := .type "list", data := .seq ([.ref T0] : List Value).toArray }).get? b = some o := fun b o e => Heap.get?_push_of_some _ (o1 b o e)
  have hh3 : A.in1.handled = none := hh
  have n1 : h1.objs.size ≠ s.heap.objs.size := by rw [hsz]; omega
  have n2 : h1.objs.size ≠ l := by rw [hsz]; exact Ne.symm (Nat.ne_of_lt (Nat.lt_succ_of_lt hllt))
  have n3 : s.heap.objs.size ≤ h1.objs.size := by rw [hsz]; omega
  have n4 : T0 ≠ h1.objs.size := by rw [hsz]; exact Nat.ne_of_lt (Nat.lt_succ_of_lt hT0lt)
  have n5 : T0 ≠ s.heap.objs.size := Nat.ne_of_lt hT0lt
  refine wpAny_pure ⟨plainId_quiet F.plain_sum_loop _, ?_⟩
  refine sumL_loop (A := A) (S := h1.objs.size) ((Walks.list hh3 s.heap.objs.size l (Nat.ne_of_lt hllt) its).toS) hb n1 n2 (fun i => Nat.le_trans ?_ hz) s n3 (Nat.le_refl _) hL T0 (fun s2 T k1 k2 k3 => ?_) _ 0
    { s with heap := h1.push { cls := .type "list", data := .seq ([.ref T0] : List Value).toArray } } T0 0 rfl (Nat.zero_le _) ⟨hit.at fun o e => Heap.get?_push_of_some _ e, hl.at fun o e => o2 _ _ e⟩ ⟨o2, rfl, rfl⟩ (Heap.get?_push_size _ rfl) ⟨n0, o2 _ _ hT⟩ n4 n5 (.inl ⟨rfl, rfl⟩)
  case refine_2 => exact hQ s2 T k1 k2 k3
  have : bs = bs.take i ++ bs.drop i := (List.take_append_drop i bs).symm
  conv => rhs; rw [this]
  rw [List.map_append, List.flatten_append, List.length_append]
  omega
end
def rSumL : List V → Hp → VK → Prop := fun vs H Q => ∃ (a t : Addr) (bs : List (Addr × List V)), vs = [.ref a, .ref t] ∧ H a = some (.lst (bs.map fun p => V.ref p.1)) ∧ (∀ p ∈ bs, H p.1 = some (.lst p.2)) ∧ H t = some (.lst []) ∧
  ((bs.map (·.2)).flatten).length ≤ sizeLine ∧ (bs = [] → Q (.ref t) H) ∧ ∀ p, H p = none → Q (.ref p) (upd H p (.lst ((bs.map (·.2)).flatten)))
theorem lats {X : Cx} {pins : List (Addr × Obj)} {σ : L2.St} {H : Hp} {s : Shared} (I : Inv X pins σ H s) : ∀ bs : List (Addr × List V), (∀ p ∈ bs, H p.1 = some (.lst p.2)) →
    ∃ cs : List (Addr × List Value), cs.map (fun p => Value.ref p.1) = bs.map (fun p => Value.ref p.1) ∧ (∀ p ∈ cs, Lat s.heap p.1 p.2) ∧ Vals ((bs.map (·.2)).flatten) ((cs.map (·.2)).flatten)
  | [], _ => ⟨[], rfl, (fun _ h => absurd h List.not_mem_nil), .nil⟩
  | (a, vs) :: bs, h => by
    obtain ⟨cs, e1, e2, e3⟩ := lats I bs fun p hp => h p (List.mem_cons_of_mem _ hp)
    obtain ⟨_, its, n, r, _, e⟩ := I.lstM (h (a, vs) List.mem_cons_self)
    refine ⟨(a, its) :: cs, by rw [List.map_cons, List.map_cons, e1], fun p hp => ?_, r.append e3⟩
    rcases List.mem_cons.mp hp with q | q
    · rw [q]; exact ⟨n, e⟩
    · exact e2 p q
theorem vals_refs : ∀ {as : List Addr} {us : List Value}, Vals (as.map V.ref) us → us = as.map Value.ref
  | [], _, .nil => rfl
  | a :: as, _, .cons r rr => by
    have e : _ = Value.ref a := r
    rw [vals_refs rr, e]
    rfl
theorem cr_sumL {X : Cx} (hc : X.calm = true) : CallR X (.builtin "sum") rSumL := by
  intro pins s σ H vs us Q I r h
  obtain ⟨a, t, bs, rfl, ha, hbs, ht, hz, q1, q2⟩ := h
  cases r with
  | cons ra r =>
  cases r with
  | cons rt r =>
  cases r
  cases ra
  cases rt
  obtain ⟨_, its, n, rv, _, e⟩ := I.lstM ha
  obtain ⟨_, itt, nt, rt, _, et⟩ := I.lstM ht
  cases rt
  obtain ⟨cs, e1, e2, e3⟩ := lats I bs hbs
  have ei : its = cs.map fun p => Value.ref p.1 := by
    have := vals_refs (as := bs.map (·.1)) (us := its) (by rw [List.map_map]; exact rv)
    rw [this, e1, List.map_map]
    rfl
  have hlen : ((cs.map (·.2)).flatten).length ≤ sizeLine := by rw [← e3.length]; exact hz
  refine call_sumL (its := its.toArray) (bs := cs) (I.ok.hd hc) ⟨_, e, rfl, n, rfl⟩ ei ⟨nt, et⟩ hlen e2 fun s2 T kp hT ho => ?_
  rcases ho with ⟨rfl, rfl⟩ | ho
  · have hb : bs = [] := by
      have := congrArg List.length e1
      rw [List.length_map, List.length_map] at this
      exact List.eq_nil_of_length_eq_zero this.symm
    exact ⟨.ref T, H, I.call' (ch := []) kp.os (Un.kept kp.hp) (I.hok.kept kp.hp) (by rw [kp.gens]; exact I.bare) (fun _ z => nomatch z), rfl, q1 hb⟩
  · have hn : H T = none := I.hok.fresh ho
    obtain ⟨m, hm⟩ := hT
    have J : Inv X pins σ (upd H T (.lst ((bs.map (·.2)).flatten))) s2 := I.call' (ch := []) kp.os (Un.laid kp.hp ho hn) (I.hok.laid kp.hp ho ⟨hz, _, m, e3, hm⟩) (by rw [kp.gens]; exact I.bare) (fun _ z => nomatch z)
    exact ⟨.ref T, _, J, rfl, q2 T hn⟩
section
variable {X : Cx} {S : Sy} {W : WX} {k : Nat}
theorem lsOf_eq : ∀ {xs : List AV} {zs : List (List AV)}, lsOf xs = some zs → xs = zs.map AV.lst
  | [], zs, h => by cases h; rfl
  | x :: xs, zs, h => by
    cases x <;> simp only [lsOf] at h <;> first | (cases h; done) | skip
    cases e : lsOf xs with
    | none => rw [e] at h; cases h
    | some ws =>
      rw [e] at h
      cases h
      rw [lsOf_eq e]
      rfl
theorem repL_ls {K : PySem.W.Frag} {g : Gh} : ∀ {zs : List (List AV)} {us : List V}, RepL K g (zs.map AV.lst) us → ∃ bs : List (Addr × List V), us = bs.map (fun p => V.ref p.1) ∧ (∀ p ∈ bs, g.I p.1 = some (.lst p.2)) ∧ RepL K g zs.flatten ((bs.map (·.2)).flatten) ∧ (zs = [] → bs = [])
  | [], us, h => ⟨[], h, (fun _ h => absurd h List.not_mem_nil), rfl, fun _ => rfl⟩
  | z :: zs, us, h => by
    obtain ⟨u, vr, rfl, ⟨a, vs, rfl, hI, rv⟩, hr⟩ := h
    obtain ⟨bs, rfl, e1, e2, _⟩ := repL_ls hr
    refine ⟨(a, vs) :: bs, rfl, fun p hp => ?_, rv.app e2, fun z => nomatch z⟩
    rcases List.mem_cons.mp hp with q | q
    · rw [q]; exact hI
    · exact e1 p q
theorem js_sumL : CaS S rSumL fSumL := by
  intro W g F σ H δ M xs vs Q st rs p
  unfold fSumL at p
  split at p
  · rename_i ys
    cases e : lsOf ys with
    | none => simp only [e] at p; exact p.elim
    | some zs =>
      simp only [e] at p
      obtain ⟨q, p2⟩ := ifok (P := fun r => PoE S W F σ δ g r Q) id p
      obtain ⟨v, vr, rfl, ⟨a, us, rfl, hI, rv⟩, v2, vr2, rfl, ⟨t, us2, rfl, hI2, rv2⟩, e3⟩ := rs
      cases (show vr2 = [] from e3)
      cases (show us2 = [] from rv2)
      rw [lsOf_eq e] at rv
      obtain ⟨bs, rfl, b1, b2, b3⟩ := repL_ls rv
      refine ⟨a, t, bs, rfl, st.m.sees _ _ hI, fun p hp => st.m.sees _ _ (b1 p hp), st.m.sees _ _ hI2, by rw [← b2.len]; exact lim_le q, fun hb => ?_, new_frz st b2 p2⟩
      subst hb
      exact p2 g _ H (.refl g) st ⟨t, [], rfl, hI2, b2⟩
  · exact p.elim
theorem y_sumL {e e2 : Expr} {a : AA} {p pos : Pos} (G : Ok X S W k) (hm : X.mg "sum" = none) (ha : PA X [e, e2] (tA S W a)) (h : ∀ f r, X.mg "sum" = none → PA X [e, e2] (tA S W a) → CallR X (.builtin "sum") r → CaS S r f → PE X (.Call (.Name "sum" p) [e, e2] [] pos) (tE S W (aCall f a)) := by intro f r h0 ha h1 h2; exact y_blt_call h1 h2 h0 (by decide +kernel) ha) :
    PE X (.Call (.Name "sum" p) [e, e2] [] pos) (tE S W (aCall fSumL a)) := h _ _ hm ha (cr_sumL G.calm) js_sumL
end
end Yk
/-! sorted(set(ints)), of any size. -/
namespace Yk
open PySem PySem.Spec L2 PyProof.Rows
/-- a set that was just made -/
abbrev set0 (w : World) : Obj := { cls := .type "set", dict := none, data := .set #[] 0 (.fresh 0 0 (!w.params.followText "set-order")) }
section
variable {P : Program} {w : World} {A : Around} {E : Value → Shared → Prop} {s : Shared}
/-- set.__init__ with a list of ints -/
theorem init_lsI {h1 : Heap} {l S : Addr} {its : Array Value} {ns : List Int} (hh : A.handled = none) (hl : h1.IsList l its) (hi : IntsAre its.toList ns) (hb : ns.length + 1 < scanBound) (hS : h1.get? S = some (set0 w)) (hne : S ≠ l) {Q : PySem.Fin → Shared → Prop}
    (h : ∀ s2 c, (∀ b o, b ≠ S → h1.get? b = some o → s2.heap.get? b = some o) → s2.gens = s.gens → s2.os = s.os → s2.drawn = s.drawn → SetR w s2.heap S (fun j => decide (j ∈ ns)) c → c ≤ ns.length → Q (.done (.ret .none)) s2) :
    wpAny (model P w) A (Builtin.«set.__init__» ⟨[.ref S, .ref l], []⟩) Q E { s with heap := h1 } := by
  obtain ⟨ol, hol, hcl, nl, hdl⟩ := hl
  obtain ⟨ocls, odict, odata, oslots⟩ := ol
  simp only at hcl hdl
  subst hcl; subst hdl
  have hl1 : h1.IsList l its := ⟨_, hol, rfl, nl, rfl⟩
  have a1 := F.sub_list_set
  have a2 := F.sub_list_frozenset
  have a3 : (Value.type "list" == Value.type "dict") = false := by decide
  unfold Builtin.«set.__init__» noKeywords Builtin.Frozenset.updateFrom
  generalize hPI : pyIter = PI
  wp_walk
  subst hPI
  refine wpAny_pyIter_list hl1 (wpAny_bind (wpAny_runValue ?_))
  have hlt : l < h1.objs.size := Heap.lt_size hol
  have hlS : S < h1.objs.size := Heap.lt_size hS
  have keep : ∀ b o, h1.get? b = some o → (h1.push { cls := .type "list_iterator", data := .fields #[.ref l, .int 0 0] }).get? b = some o := fun b o e => Heap.get?_push_of_some _ e
  have it : (h1.push { cls := .type "list_iterator", data := .fields #[.ref l, .int 0 0] }).IsListIter h1.objs.size l 0 := ⟨_, Heap.get?_push_size _ rfl, rfl, rfl⟩
  have hn : its.size = ns.length := by rw [← Array.length_toList]; exact hi.length
  refine set_update_ints ((Walks.list (A := A.in1) hh h1.objs.size l (Nat.ne_of_lt hlt) its).toS) S (by simpa using ⟨Nat.ne_of_lt hlS, hne⟩) ns hn hb (fun i v hv => ?_) _ 0 _ rfl (Nat.zero_le _) ⟨it, hl1.at fun o e => keep _ _ e⟩ ⟨0, Nat.le_refl 0, setR_new_at (keep _ _ hS)⟩ fun s2 c hm hc hR => ?_
  · have hlt2 : i < ns.length := by rw [← hn]; exact (Array.getElem?_eq_some_iff.mp hv).1
    obtain ⟨t, e⟩ := hi.int_at i v (by rw [Array.getElem?_toList]; exact hv)
    rw [List.getD_eq_getElem?_getD, List.getElem?_eq_getElem hlt2] at e
    exact ⟨_, t, List.getElem?_eq_getElem hlt2, e⟩
  · refine wpAny_pure (wpAny_pure (h s2 c (fun b o hb2 e => hm.heap b o (fun z => ?_) (keep b o e)) hm.gens hm.os hm.drawn hR (by rw [← hn]; exact hc)))
    rcases List.mem_cons.mp z with q | q
    · exact hb2 q
    · rw [List.mem_singleton.mp q] at e
      exact Nat.lt_irrefl _ (Heap.lt_size e)
/-- set(l) -/
theorem call_set_lsI {l : Addr} {its : Array Value} {ns : List Int} {Q : Value → Shared → Prop} (hh : A.handled = none) (hl : s.heap.IsList l its) (hi : IntsAre its.toList ns) (hb : ns.length + 1 < scanBound)
    (h : ∀ s2 c, Kp s s2 → SetR w s2.heap s.heap.objs.size (fun j => decide (j ∈ ns)) c → c ≤ ns.length → Q (.ref s.heap.objs.size) s2) : wpAny (model P w) A (call (.type "set") [.ref l]) Q E s := by
  obtain ⟨c, tl, hmro⟩ := F.called_set.mro
  have b1 := F.called_set.made
  have b2 := F.called_set.sub
  have b3 := F.called_set.notType
  have b4 := F.called_set.canCreate
  have b5 := F.typeCall_set_1 (.ref l)
  refine wpAny_call (codeAny_of_tree ?_)
  show wpAny _ _ (callAny (.type "set") _) _ _ _
  refine wpAny_pure ⟨Code.quiet_builtin _ (by decide +kernel), codeAny_builtin F.entry_type_call ?_⟩
  rw [Around.under_plain (weight_type_call_type "set" [.ref l] []) rfl]
  repeat (any_goals (first | assumption | wp_step))
  refine codeAny_mono (code_set_led1 (.ref l) (E := E) (Q₁ := fun v s1 => v = .ref s.heap.objs.size ∧ s1 = { s with heap := s.heap.push (set0 w) }) ⟨rfl, rfl⟩) fun r s1 hr => ?_
  have hlt : l < s.heap.objs.size := hl.elim fun _ q => Heap.lt_size q.1
  match r, hr with
  | .ok (.ret v), ⟨e1, e2⟩ =>
    subst e1 e2
    have hS : (s.heap.push (set0 w)).get? s.heap.objs.size = some (set0 w) := Heap.get?_push_size _ rfl
    have hT : Shared.TypeIs { s with heap := s.heap.push (set0 w) } (.ref s.heap.objs.size) "set" := ⟨_, hS, rfl⟩
    have c1 := F.called_set.init.lookup
    have c2 := F.called_set.init.bind (.ref s.heap.objs.size)
    repeat (any_goals (first | assumption | wp_step))
    refine codeAny_mono (codeAny_call_builtin (R := wants (fun r s2 => r = .none ∧ ∃ c, Kp s s2 ∧ s2.drawn = s.drawn ∧ SetR w s2.heap s.heap.objs.size (fun j => decide (j ∈ ns)) c ∧ c ≤ ns.length) E) F.called_set.init.plain F.entry_set_init (check_set_init_1 hT ?_)) fun r2 s2 hr2 => ?_
    · refine init_lsI (A := A.in1.in1) (s := s) hh (hl.at fun o e => Heap.get?_push_of_some _ e) hi hb hS (Nat.ne_of_gt hlt) fun s2 c k1 k2 k3 k4 k5 k6 => ?_
      refine ⟨rfl, c, ⟨fun b o e => k1 b o (Nat.ne_of_lt (Heap.lt_size e)) (Heap.get?_push_of_some _ e), k2, k3⟩, k4, k5, k6⟩
    · match r2, hr2 with
      | .ok (.ret v), ⟨e1, c, k1, k2, k3, k4⟩ =>
        subst e1
        repeat (any_goals (first | assumption | wp_step))
        exact h _ _ k1 k3 k4
      | .error e, hr2 => exact hr2
  | .error e, hr => exact hr
/-- sorted(a), a set of ints of any size -/
theorem sorted_setA {a : Addr} {S : Int → Bool} {n : Nat} {Q : Value → Shared → Prop} (R : SetR w s.heap a S n) (hh : A.handled = none) (hn : n ≤ 100000)
    (hQ : ∀ s2 p (ns : List Int), Kp s s2 → s.heap.objs.size ≤ p → (∃ out c, s2.heap.get? p = some (seqObj "list" (out : List Value).toArray c) ∧ IntsAre out ns) → ns.Pairwise (· < ·) → (∀ k, k ∈ ns ↔ S k = true) → ns.length = n → Q (.ref p) s2) :
    wpAny (model P w) A (call (.builtin "sorted") [.ref a]) Q E s := by
  obtain ⟨o, es, ep, t, ho, hex, hd, g, nd, hm, hb, hf, hes, hr, hl⟩ := R
  have hsz : (100000 : Nat) ≤ sizeLine := by rw [sizeLine_eq]; omega
  refine Calls.call_function_entry kind_sorted plain_sorted entry_sorted (args_sorted1 _) ?_
  unfold Builtin.«sorted»
  refine wpAny_bind (m := checkCount "sorted" 1 1 _) (wpAny_pure (wpAny_bind (collect_set (A := A.in1) hh ⟨o, ho, hex.1, hd⟩ hf hb hr hl fun s1 vs k1 hz g1 o1 pm => ?_)))
  have hvl : vs.length = n := by rw [pm.length_eq, List.length_map, Array.length_toList, hes]
  have hI : IntsAre vs (vs.map Builtin.Re.reRawOf) := ints_of vs fun v hv => (List.mem_map.mp (pm.mem_iff.mp hv)).elim fun e he => (g e he.1).elim fun k q => q.elim fun t q => ⟨k, t, he.2 ▸ q.1⟩
  have pk : (vs.map Builtin.Re.reRawOf).Perm (es.toList.map keyOf) := (pm.map Builtin.Re.reRawOf).trans (by rw [List.map_map]; exact .refl _)
  have hvz : vs.length ≤ sizeLine := by rw [hvl]; exact Nat.le_trans hn hsz
  refine wpAny_bind (wpAny_newList ?_ hvz)
  have hoL : (s1.heap.push (seqObj "list" vs.toArray 0)).get? s1.heap.objs.size = some (seqObj "list" vs.toArray 0) := Heap.get?_push_size _ rfl
  refine wpAny_bind (wpAny_holding (wpAny_call_entry slot_list_sort ⟨_, hoL, rfl⟩ entry_list_sort (SrtO.list_sort_ord SrtO.swo_int hoL hvz (fun h2 => SrtO.ints_sortable hI h2) fun out h1 h2 => ⟨_, rfl, ?_⟩) (args_list_sort _)))
  obtain ⟨a1, a2, a3⟩ := SrtO.ints_out hI h1 h2
  obtain ⟨c, hc⟩ := sortedHeap_at (vs := vs) (out := out.toArray) hoL
  have pn := a2.trans pk
  refine wpAny_pure ⟨_, rfl, hQ _ s1.heap.objs.size (out.map SrtO.iv) ⟨fun b u e => ?_, g1, o1⟩ hz ⟨out, c, hc, a1⟩ (lt_of_le_nodup _ a3 (pn.nodup_iff.mpr nd)) (fun k => by rw [pn.mem_iff, ← hm k]) (by rw [pn.length_eq, List.length_map, Array.length_toList, hes])⟩
  have q := k1 b u e
  have hlt := Heap.lt_size q
  show (sortedHeap (s1.heap.push (seqObj "list" vs.toArray 0)) s1.heap.objs.size vs out.toArray).get? b = some u
  rw [sortedHeap_old (Nat.ne_of_lt hlt) (by rw [size_push']; exact Nat.lt_succ_of_lt hlt)]
  exact Heap.get?_push_of_some _ q
end
section
variable {X : Cx} {S : Sy} {W : WX} {k : Nat}
def rSetL (w : World) : List V → Hp → VK → Prop := fun vs H Q => ∃ (a : Addr) (ns : List Int), vs = [V.ref a] ∧ H a = some (.lst (ns.map V.int)) ∧ ns.length ≤ 1000 ∧ ∀ p c, H p = none → c ≤ ns.length → Q (.ref p) (upd H p (SetO w p (fun j => decide (j ∈ ns)) c))
theorem cr_setL (hc : X.calm = true) : CallR X (.type "set") (rSetL X.w) := by
  intro pins s σ H vs us Q I r h
  obtain ⟨a, ns, rfl, ha, hz, q⟩ := h
  rw [Vals.ref1 r]
  obtain ⟨_, its, n, rv, _, e⟩ := I.lstM ha
  refine call_set_lsI (its := its.toArray) (ns := ns) (I.ok.hd hc) ⟨_, e, rfl, n, rfl⟩ (ints_of_vals rv) (by unfold scanBound; omega) fun s2 c kp R hcn => ?_
  have hn : H s.heap.objs.size = none := I.hok.fresh (Nat.le_refl _)
  have J : Inv X pins σ (upd H s.heap.objs.size (SetO X.w s.heap.objs.size (fun j => decide (j ∈ ns)) c)) s2 := I.call' (ch := []) kp.os (Un.laid kp.hp (Nat.le_refl _) hn) (I.hok.laid kp.hp (Nat.le_refl _) (setO_new R)) (by rw [kp.gens]; exact I.bare) (fun _ z => nomatch z)
  exact ⟨.ref _, _, J, rfl, q _ c hn hcn⟩
def rSortSetA (w : World) : List V → Hp → VK → Prop := fun vs H Q => ∃ (a : Addr) (S : Int → Bool) (n : Nat), vs = [V.ref a] ∧ H a = some (SetO w a S n) ∧ n ≤ 100000 ∧
  ∀ (ns : List Int) (p : Addr), ns.Pairwise (· < ·) → (∀ k : Int, k ∈ ns ↔ S k = true) → ns.length = n → H p = none → Q (.ref p) (upd H p (.lst (ns.map V.int)))
theorem cr_sortSetA (hc : X.calm = true) : CallR X (.builtin "sorted") (rSortSetA X.w) := by
  intro pins s σ H vs us Q I r h
  obtain ⟨a, S, n, rfl, ha, hz, q⟩ := h
  rw [Vals.ref1 r]
  refine sorted_setA (setO_get I ha) (I.ok.hd hc) hz fun s2 p ns kp hp ⟨out, c, ho, hi⟩ hs hm hl => ?_
  have hn : H p = none := I.hok.fresh hp
  have J : Inv X pins σ (upd H p (.lst (ns.map V.int))) s2 := I.call' (ch := []) kp.os (Un.laid kp.hp hp hn) (I.hok.laid kp.hp hp ⟨by rw [List.length_map, hl, sizeLine_eq]; omega, out, c, vals_of_ints hi, ho⟩) (by rw [kp.gens]; exact I.bare) (fun _ z => nomatch z)
  exact ⟨.ref p, _, J, rfl, q ns p hs hm hl hn⟩
theorem mem_dedup {x : Int} : ∀ {xs : List Int}, x ∈ dedupS xs ↔ x ∈ xs
  | [] => Iff.rfl
  | y :: xs => by
    unfold dedupS
    by_cases h : y ∈ xs
    · rw [if_pos h, mem_dedup, List.mem_cons]
      exact ⟨.inr, fun q => q.elim (fun e => e ▸ h) id⟩
    · rw [if_neg h, List.mem_cons, List.mem_cons, mem_dedup]
theorem nodup_dedup : ∀ {xs : List Int}, (dedupS xs).Nodup
  | [] => List.nodup_nil
  | y :: xs => by
    unfold dedupS
    by_cases h : y ∈ xs
    · rw [if_pos h]
      exact nodup_dedup
    · rw [if_neg h, List.nodup_cons, mem_dedup]
      exact ⟨h, nodup_dedup⟩
theorem asc_eq {xs ys : List Int} (h1 : xs.Pairwise (· < ·)) (h2 : ys.Pairwise (· ≤ ·)) (h3 : ys.Nodup) (h : ∀ k, k ∈ xs ↔ k ∈ ys) : xs = ys := by
  have n1 : xs.Nodup := h1.imp fun {a b} q e => by omega
  exact (List.perm_ext_iff_of_nodup n1 h3 |>.mpr h).eq_of_pairwise (fun a b _ _ p q => Int.le_antisymm p q) (h1.imp fun {a b} q => Int.le_of_lt q) h2
theorem fSortSet_do {g : Gh} {F : Fm} {σ : Sg} {H : Hp} {δ : Sl} {M : Mem} {xs : List AV} {vs : List V} {Q : VK} (st : StS S.K g F σ H δ M) (rs : RepL S.K g xs vs) (p : PoE S W F σ δ g (fSortSet xs M) Q) : rSetL X.w vs H fun x H2 => rSortSetA X.w [x] H2 Q := by
  unfold fSortSet at p
  split at p
  · rename_i ys
    cases e : intsOf ys with
    | none => simp only [e] at p; exact p.elim
    | some ns =>
      simp only [e] at p
      obtain ⟨q, p2⟩ := ifok (P := fun r => PoE S W F σ δ g r Q) id p
      obtain ⟨v, rfl, a, us, rfl, hI, rv⟩ := vs_one rs
      rw [intsOf_eq e] at rv
      rw [repL_ints rv] at hI
      refine ⟨a, ns, rfl, st.m.sees _ _ hI, q, fun z c hz hc => ⟨z, _, c, rfl, upd_same, by omega, fun out t h1 h2 h3 ht => ?_⟩⟩
      have e2 := Gh.le_put (o := SetO X.w z (fun j => decide (j ∈ ns)) c) (st.m.dark hz)
      have eo : out = sortI (dedupS ns) := asc_eq h1 (sortI_le _) ((sortI_perm _).nodup_iff.mpr nodup_dedup) fun k => by rw [h2 k, decide_eq_true_eq, (sortI_perm _).mem_iff, mem_dedup]
      rw [eo]
      exact new_frz (W := W) (δ := δ) (st := ⟨st.m.put hz, st.s.mono e2⟩) (r := repL_ints_of _) (p := fun g2 x H3 le => p2 g2 x H3 (e2.trans le)) t ht
  · exact p.elim
theorem y_sortSet {e : Expr} {a : AA} {p p2 pos pos2 : Pos} (G : Ok X S W k) (hm : X.mg "sorted" = none) (hm2 : X.mg "set" = none) (ha : PA X [e] (tA S W a)) (hg : Gl X "sorted" := by rfl) (hg2 : Gl X "set" := by rfl) (he : starEach [e] X.env = (false, eval e X.env) :: starEach [] X.env := by rfl)
    (he2 : starEach [.Call (.Name "set" p2) [e] [] pos2] X.env = (false, eval (.Call (.Name "set" p2) [e] [] pos2) X.env) :: starEach [] X.env := by rfl) : PE X (.Call (.Name "sorted" p) [.Call (.Name "set" p2) [e] [] pos2] [] pos) (tE S W (aCall fSortSet a)) := by
  refine pe_imp (pe_callB (cr_sortSetA G.calm) hg hm (by decide +kernel) (pa_cons (pe_callTy (cr_setL G.calm) hg2 hm2 (by decide +kernel) ha (he := he)) pa_nil he2) (he := he2)) fun σ H Q ⟨g, F, δ, M, st, q⟩ => ?_
  exact ⟨g, F, δ, M, st, bindAE q fun g1 xs M1 vs H1 e1 st1 r1 p1 => fSortSet_do st1 r1 p1⟩
end
end Yk
/-! What repr shows; loops by invariant; places of the store. -/
namespace Yk
open PySem PySem.Spec L2
/-- data that is shown in at most l signs, and nests at most p times -/
structure Gd (d : PyData) (p l : Nat) : Prop where
  lay : d.canLay0 = true
  dep : d.depth ≤ p
  sh : d.showable = true
  len : d.shown.length ≤ l
theorem Gd.mono {d : PyData} {p l p2 l2 : Nat} (h : Gd d p l) (hp : p ≤ p2) (hl : l ≤ l2) : Gd d p2 l2 := ⟨h.lay, Nat.le_trans h.dep hp, h.sh, Nat.le_trans h.len hl⟩
theorem Gd.int {i : Int} (h : i.natAbs < 2 ^ 200) : Gd (.int i) 0 201 := by
  have hl : i.natAbs.log2 < 200 := by
    by_cases h0 : i.natAbs = 0
    · rw [h0]
      decide
    · exact (Nat.log2_lt h0).mpr h
  refine ⟨by simp [PyData.canLay0], by simp [PyData.depth], ?_, ?_⟩
  · simp only [PyData.showable, decide_eq_true_eq]
    omega
  · have e := int_text_length_le (a := i) (k := 200) (by decide) hl
    show (Str.ofString (toString i)).length ≤ _
    rw [ofString_length]
    exact e
theorem Gd.non : Gd .none 0 201 := ⟨by simp [PyData.canLay0], by simp [PyData.depth], by simp [PyData.showable], by decide +kernel⟩
theorem Gd.bl {b : Bool} : Gd (.bool b) 0 201 := ⟨by simp [PyData.canLay0], by simp [PyData.depth], by simp [PyData.showable], by cases b <;> decide +kernel⟩
theorem gd_all {p l : Nat} : ∀ {xs : List PyData}, (∀ x ∈ xs, Gd x p l) → PyData.canLayAll0 xs = true ∧ PyData.depthAll xs ≤ p ∧ PyData.showableAll xs = true ∧ ((PyData.shownAll xs).map (·.length)).sum ≤ xs.length * l
  | [], _ => ⟨by simp [PyData.canLayAll0], by simp [PyData.depthAll], by simp [PyData.showableAll], by simp [PyData.shownAll]⟩
  | x :: xs, h => by
    obtain ⟨h1, h2, h3, h4⟩ := h x List.mem_cons_self
    obtain ⟨k1, k2, k3, k4⟩ := gd_all fun y hy => h y (List.mem_cons_of_mem _ hy)
    refine ⟨by simp only [PyData.canLayAll0, h1, k1, Bool.and_self], by simp only [PyData.depthAll]; omega, by simp only [PyData.showableAll, h3, k3, Bool.and_self], ?_⟩
    simp only [PyData.shownAll, List.map_cons, List.sum_cons, List.length_cons]
    rw [Nat.succ_mul]
    omega
theorem Gd.list {p l m : Nat} {xs : List PyData} (h : ∀ x ∈ xs, Gd x p l) (hm : xs.length * (l + 2) + 3 ≤ m) : Gd (.list xs) (p + 1) m := by
  obtain ⟨k1, k2, k3, k4⟩ := gd_all h
  refine ⟨by simp only [PyData.canLay0]; exact k1, by simp only [PyData.depth]; omega, by simp only [PyData.showable]; exact k3, ?_⟩
  have e := listText_len_le (PyData.shownAll xs)
  rw [PyData.shownAll_length] at e
  rw [Nat.mul_add] at hm
  simp only [PyData.shown]
  omega
theorem Gd.tup {p l m : Nat} {xs : List PyData} (h : ∀ x ∈ xs, Gd x p l) (hm : xs.length * (l + 2) + 3 ≤ m) : Gd (.tuple xs) (p + 1) m := by
  obtain ⟨k1, k2, k3, k4⟩ := gd_all h
  refine ⟨by simp only [PyData.canLay0]; exact k1, by simp only [PyData.depth]; omega, by simp only [PyData.showable]; exact k3, ?_⟩
  have e := tupleText_len_le (PyData.shownAll xs)
  rw [PyData.shownAll_length] at e
  rw [Nat.mul_add] at hm
  simp only [PyData.shown]
  omega
theorem Gd.ok {d : PyData} {p l : Nat} (h : Gd d p l) (hp : p ≤ 64) (hl : l ≤ 16777216) : shOk d = true := by
  unfold shOk SeqAt.shaped
  rw [h.lay, h.sh, decide_eq_true (Nat.le_trans h.dep hp), decide_eq_true (by rw [sizeLine_eq]; exact Nat.le_trans h.len hl)]
  rfl
section
variable {M : Mem} {x : AV} {d : PyData}
theorem ev_repr (h : toD M x = some d) (hd : isD d = true) (hs : shOk d = true) : fRepr [x] M = .ok (.str d.shown) M := by
  unfold fRepr
  simp only [h]
  rw [hd, hs, if_pos (by rfl)]
theorem toDps_map {γ : Type} {p : Nat → Option PyData} {g : γ → AV} {h : γ → PyData} : ∀ {l : List γ}, (∀ z ∈ l, toDp p (g z) = some (h z)) → toDps p (l.map g) = some (l.map h)
  | [], _ => by rw [List.map_nil, List.map_nil, toDps]
  | z :: l, k => by
    rw [List.map_cons, List.map_cons, toDps, k z List.mem_cons_self, toDps_map fun y hy => k y (List.mem_cons_of_mem _ hy)]
theorem toDp_int {p : Nat → Option PyData} {i : Int} : toDp p (.int i) = some (.int i) := by rw [toDp]
theorem toDp_lst {p : Nat → Option PyData} {xs : List AV} {ds : List PyData} (h : toDps p xs = some ds) : toDp p (.lst xs) = some (.list ds) := by rw [toDp, h]; rfl
theorem toDp_tup {p : Nat → Option PyData} {xs : List AV} {ds : List PyData} (h : toDps p xs = some ds) : toDp p (.tup xs) = some (.tuple ds) := by rw [toDp, h]; rfl
theorem toDps_two {p : Nat → Option PyData} {x y : AV} {d e : PyData} (h : toDp p x = some d) (k : toDp p y = some e) : toDps p [x, y] = some [d, e] := by rw [toDps, toDps, toDps, h, k]
theorem toDps_four {p : Nat → Option PyData} {x y z w : AV} {d e f g : PyData} (h : toDp p x = some d) (k : toDp p y = some e) (h2 : toDp p z = some f) (k2 : toDp p w = some g) : toDps p [x, y, z, w] = some [d, e, f, g] := by
  rw [toDps, toDps, toDps, toDps, toDps, h, k, h2, k2]
theorem ptrD_lst {n l : Nat} {xs : List AV} {ds : List PyData} (h : M[l]? = some (.lst xs)) (k : toDps (ptrD M n) xs = some ds) : toDp (ptrD M (n + 1)) (.ptr l) = some (.list ds) := by
  rw [toDp]
  unfold ptrD
  simp only [h, k]
  rfl
/-! places of the store -/
theorem at_0 {c : MO} {xs : Mem} : (M ++ c :: xs)[M.length]? = some c := by rw [List.getElem?_append_right (Nat.le_refl _), Nat.sub_self]; rfl
theorem at_n {xs : Mem} {n : Nat} : (M ++ xs)[M.length + n]? = xs[n]? := by rw [List.getElem?_append_right (Nat.le_add_right _ _), Nat.add_sub_cancel_left]
theorem set_0 {c c2 : MO} {xs : Mem} : (M ++ c :: xs).set M.length c2 = M ++ c2 :: xs := by rw [List.set_append_right _ _ (Nat.le_refl _), Nat.sub_self]; rfl
theorem set_n {c2 : MO} {xs : Mem} {n : Nat} : (M ++ xs).set (M.length + n) c2 = M ++ xs.set n c2 := by rw [List.set_append_right _ _ (Nat.le_add_right _ _), Nat.add_sub_cancel_left]
/-! loops, by an invariant -/
theorem forL_inv {γ : Type} {t : Tg} {g : γ → AV} {b : AS} (J : Nat → Sl → Mem → Prop) {l : List γ} (h : ∀ i z, l[i]? = some z → ∀ δ M, J i δ M → ∃ δ1, t.put (g z) δ = some δ1 ∧ ∃ δ2 M2, b δ1 M = .nx δ2 M2 ∧ J (i + 1) δ2 M2) :
    ∀ δ M, J 0 δ M → ∃ δ2 M2, forL t b (l.map g) δ M = .nx δ2 M2 ∧ J l.length δ2 M2 := by
  induction l generalizing J with
  | nil => intro δ M j; exact ⟨δ, M, rfl, j⟩
  | cons z l ih =>
    intro δ M j
    obtain ⟨δ1, e1, δ2, M2, e2, j2⟩ := h 0 z rfl δ M j
    obtain ⟨δ3, M3, e3, j3⟩ := ih (fun i => J (i + 1)) (fun i z q δ M j => h (i + 1) z q δ M j) δ2 M2 j2
    refine ⟨δ3, M3, ?_, j3⟩
    rw [List.map_cons]
    unfold forL
    simp only [e1, e2]
    exact e3
theorem lcL_inv {γ : Type} {t : Tg} {g : γ → AV} {a : AE} {δ : Sl} (J : Nat → List AV → Mem → Prop) {l : List γ} (h : ∀ i z, l[i]? = some z → ∀ acc M, J i acc M → ∃ δ1, t.put (g z) δ = some δ1 ∧ ∃ x M2, a δ1 M = .ok x M2 ∧ J (i + 1) (acc ++ [x]) M2) :
    ∀ acc M, acc.length + l.length ≤ 100000 → J 0 acc M → ∃ acc2 M2, lcL t aYes a δ (l.map g) acc M = .ok acc2 M2 ∧ J l.length acc2 M2 := by
  induction l generalizing J with
  | nil => intro acc M _ j; exact ⟨acc, M, rfl, j⟩
  | cons z l ih =>
    intro acc M hl j
    rw [List.length_cons] at hl
    obtain ⟨δ1, e1, x, M2, e2, j2⟩ := h 0 z rfl acc M j
    obtain ⟨acc3, M3, e3, j3⟩ := ih (fun i => J (i + 1)) (fun i z q acc M j => h (i + 1) z q acc M j) (acc ++ [x]) M2 (by rw [List.length_append, List.length_singleton]; omega) j2
    refine ⟨acc3, M3, ?_, j3⟩
    rw [List.map_cons]
    unfold lcL
    simp only [e1, aYes, e2]
    rw [if_pos (by unfold lim; omega)]
    exact e3
/-! powers, slices, sums -/
theorem ev_pow {i : Int} {j : Int} (h0 : 0 ≤ j) (h1 : j ≤ 100) (h2 : i.natAbs.log2 ≤ 1000000) : fPow (.int i) (.int j) M = .ok (.int (i ^ j.toNat)) M := if_pos ⟨h0, h1, h2⟩
theorem ev_noP {δ : Sl} : aNoP δ M = .ok none M := rfl
def partV (x : AV) (M1 : Mem) : Res (Option Int) := match x with
  | .int i => .ok (some i) M1
  | _ => .bad
theorem ev_part {a : AE} {δ : Sl} : aPart a δ M = Res.bind (a δ M) partV := rfl
theorem part_ok {i : Int} : partV (.int i) M = .ok (some i) M := rfl
def Res.sl (r : Res AV) (l h : Mem → Res (Option Int)) : Res AV := r.bind fun x M1 => (l M1).bind fun lo M2 => (h M2).bind fun hi M3 => match seqOf M3 x with
  | some xs => .ok (.lst (cutA xs lo hi)) M3
  | none => .bad
def Res.sl2 (r : Res (Option Int)) (x : AV) (h : Mem → Res (Option Int)) : Res AV := r.bind fun lo M2 => (h M2).bind fun hi M3 => match seqOf M3 x with
  | some xs => .ok (.lst (cutA xs lo hi)) M3
  | none => .bad
def Res.sl3 (r : Res (Option Int)) (x : AV) (lo : Option Int) : Res AV := r.bind fun hi M3 => match seqOf M3 x with
  | some xs => .ok (.lst (cutA xs lo hi)) M3
  | none => .bad
theorem ev_slice {a : AE} {l h : AO} {δ : Sl} : aSlice a l h δ M = Res.sl (a δ M) (l δ) (h δ) := rfl
theorem sl_ok {l h : Mem → Res (Option Int)} : Res.sl (.ok x M) l h = Res.sl2 (l M) x h := rfl
theorem sl2_ok {h : Mem → Res (Option Int)} {lo : Option Int} : Res.sl2 (.ok lo M) x h = Res.sl3 (h M) x lo := rfl
theorem sl3_lst {xs : List AV} {lo hi : Option Int} : Res.sl3 (.ok hi M) (.lst xs) lo = .ok (.lst (cutA xs lo hi)) M := rfl
theorem sl3_scr {ns : List Int} {lo hi : Option Int} : Res.sl3 (.ok hi M) (.scr ns) lo = .ok (.lst (cutA (ns.map .int) lo hi)) M := rfl
theorem sl3_ptr {l : Nat} {xs : List AV} {lo hi : Option Int} (h : M[l]? = some (.lst xs)) : Res.sl3 (.ok hi M) (.ptr l) lo = .ok (.lst (cutA xs lo hi)) M := by
  show (match seqOf M (.ptr l) with | some xs => Res.ok (AV.lst (cutA xs lo hi)) M | none => Res.bad) = _
  have : seqOf M (.ptr l) = some xs := by
    show (match M[l]? with | some (.lst xs) => some xs | _ => none) = some xs
    rw [h]
  rw [this]
theorem lsOf_map : ∀ zs : List (List AV), lsOf (zs.map AV.lst) = some zs
  | [] => rfl
  | z :: zs => by
    rw [List.map_cons]
    show (lsOf (zs.map AV.lst)).map (z :: ·) = _
    rw [lsOf_map zs]
    rfl
theorem ev_sumL {zs : List (List AV)} (h : zs.flatten.length ≤ 100000) : fSumL [.lst (zs.map AV.lst), .lst []] M = .ok (.lst zs.flatten) M := by
  unfold fSumL
  simp only [lsOf_map]
  rw [if_pos (by unfold lim; exact h)]
theorem ev_sortSet {ns : List Int} (h : ns.length ≤ 1000) : fSortSet [.lst (ns.map .int)] M = .ok (.lst ((sortI (dedupS ns)).map .int)) M := by
  unfold fSortSet
  simp only [intsOf_map]
  rw [if_pos h]
theorem ev_sorted {ns : List Int} : fSorted [.lst (ns.map .int)] M = .ok (.lst ((sortI ns).map .int)) M := by
  unfold fSorted
  simp only [intsOf_map]
theorem ev_sortedN {ns : List Int} : fSortedN [.lst (ns.map .int)] M = .ok (.ptr M.length) (M ++ [.lst ((sortI ns).map .int)]) := by
  unfold fSortedN
  simp only [intsOf_map]
theorem dedup_len : ∀ ns : List Int, (dedupS ns).length ≤ ns.length
  | [] => Nat.le_refl 0
  | n :: ns => by
    have ih := dedup_len ns
    unfold dedupS
    split
    · exact Nat.le_succ_of_le ih
    · exact Nat.succ_le_succ ih
theorem sortI_len (ns : List Int) : (sortI ns).length = ns.length := (sortI_perm ns).length_eq
end
end Yk
/-! The ends of a law: from the promise of the def «law» to what the head asks. -/
namespace Yk
open PySem PySem.Spec L2 PyProof.Rows
/-- the abstract heap before the law: the script, where it is not the module's own -/
def H00 (K : PySem.W.Frag) (a : Addr) (vs : List Value) (ns : List Int) : Hp := fun b => if b = a ∧ K.lookup a = none then some (.frz { cls := .type "list", data := .seq vs.toArray } (.lst (ns.map V.int))) else none
section
variable {P : Program} {w : World} {K : PySem.W.Frag} {mg mb : Str → Option Value} {k : Nat} {fa a : Addr} {fd : FuncData} {x : Str} {S : Sy} {fn : AF} {s1 : Shared} {vs : List Value} {ns : List Int}
theorem H00_some {b : Addr} {u : HO} (h : H00 K a vs ns b = some u) : (b = a ∧ K.lookup a = none) ∧ u = .frz { cls := .type "list", data := .seq vs.toArray } (.lst (ns.map V.int)) := by
  unfold H00 at h
  by_cases c : b = a ∧ K.lookup a = none
  · rw [if_pos c] at h
    exact ⟨c, (Option.some.inj h).symm⟩
  · rw [if_neg c] at h
    cases h
theorem top_call (KX : K.In s1.heap) (hns : s1.heap.Ns mainGlobals mg) (hb : s1.heap.Ns builtinsNs mb) (hbb : ∀ x : Str, x ≠ "__name__" → mb x = bootBuiltins x) (hlim : s1.heap.NoLimit) (hg : s1.gens = #[])
    (ha : s1.heap.get? a = some { cls := .type "list", data := .seq vs.toArray }) (hi : IntsAre vs ns) (hl : ns.length ≤ sizeLine) (hr : Rg k callerA)
    (F : ∀ base : Heap, K.In base → base.Ns mainGlobals mg → FnG P w K mg base k fa fd [x] (spec S 1 fn)) (hK : K = S.K) (hbind : ∀ (s : Shared) (u : Value), BindsTo s fd ⟨[u], []⟩ [(x, u)]) (hfn : fn [.scr ns] [] = .ok (.bl true) []) :
    codeAny (model P w) callerA (.call (.ref fa) ⟨[.ref a], []⟩) (fun r s2 => r = .ok (.ret (.bool true)) ∧ OldK s1.heap s2.heap ∧ s2.os = s1.os ∧ AllBare s2.gens) s1 := by
  have rv := vals_ints hi
  have hnone : ∀ {b : Addr} {o : Obj}, s1.heap.get? b = some o → (∀ xs n, o.data ≠ .seq xs n) → H00 K a vs ns b = none := fun {b o} e d => by
    cases q : H00 K a vs ns b with
    | none => rfl
    | some u =>
      have := (H00_some q).1.1
      subst this
      rw [ha] at e
      cases e
      exact absurd rfl (d _ _)
  have hdict : ∀ {b : Addr} {m : Str → Option Value}, s1.heap.Ns b m → (hidT s1.heap (H00 K a vs ns)).Ns b m := fun {b m} ⟨o, es, ep, e, d, r⟩ => ⟨o, es, ep, hidT_get e (hnone e fun xs n z => by rw [d] at z; cases z), d, r⟩
  have hkin : K.In (hidT s1.heap (H00 K a vs ns)) := fun b o e => hidT_get (KX b o e) (by
    cases q : H00 K a vs ns b with
    | none => rfl
    | some u =>
      obtain ⟨⟨rfl, q2⟩, _⟩ := H00_some q
      rw [q2] at e
      cases e)
  have hok : HOk P w (H00 K a vs ns) s1.heap := fun b u q => by
    obtain ⟨⟨rfl, _⟩, rfl⟩ := H00_some q
    exact ⟨ha, by rw [List.length_map]; exact hl, vs, _, rv, ha⟩
  have hS : SqL K (H00 K a vs ns) a (ns.map V.int) := by
    cases q : K.lookup a with
    | none => exact .inl (.inr ⟨{ cls := .type "list", data := .seq vs.toArray }, if_pos ⟨rfl, q⟩⟩)
    | some o =>
      have e := KX a o q
      rw [ha] at e
      cases e
      exact .inr ⟨_, vs.toArray, _, q, rfl, rfl, rfl, by rw [List.size_toArray, hi.length]; exact hl, by simpa using rv⟩
  have hM : Mod K mg (hidT s1.heap (H00 K a vs ns)) := ⟨hkin, hdict hns, ⟨mb, hdict hb, hbb⟩, hlim.elim fun mc q => ⟨mc, hdict q.1, q.2⟩⟩
  have e0 : Env0 P w K mg (hidT s1.heap (H00 K a vs ns)) callerA [] s1 (H00 K a vs ns) := ⟨rfl, hM, fun b o e => of_hidT e, Nat.le_of_eq (hidT_size _ _), trivial, (fun b hb => absurd hb List.not_mem_nil), hok, .of_eq hg⟩
  have hsp : spec S 1 fn [.ref a] (H00 K a vs ns) (fun v _ => v = .bl true) (fun _ _ _ => False) := by
    refine ⟨⟨H00 K a vs ns, []⟩, [], [.scr ns], [], ⟨Same.refl _, rfl, List.nodup_nil, (fun l c a h => by cases h), fun p h => absurd h List.not_mem_nil⟩, ⟨_, _, rfl, ⟨a, rfl, hK ▸ hS⟩, rfl⟩, rfl, ?_⟩
    rw [hfn]
    exact fun g2 v H2 _ _ r => r
  refine codeAny_mono ((F _ hkin (hdict hns)).run callerA [] s1 _ ⟨[.ref a], []⟩ [.ref a] [.ref a] _ _ hr e0 (hbind s1 (.ref a)) (.cons rfl .nil) hsp) fun r s2 h => ?_
  match r, h with
  | .ok (.ret u), h =>
    obtain ⟨v, H2, os, bare, un, hok2, r2, q⟩ := h
    have q2 : v = .bl true := q
    subst q2
    obtain rfl : u = Value.bool true := r2
    refine ⟨rfl, OldK.of_keep fun b o e => ?_, os, bare⟩
    cases q : H00 K a vs ns b with
    | none => exact un.keep b o e q (fun z => absurd z List.not_mem_nil) (fun z => absurd z List.not_mem_nil)
    | some u =>
      obtain ⟨_, rfl⟩ := H00_some q
      have e1 := (hok b _ q).1
      have e2 := (hok2 b _ (un.frzs b _ _ q)).1
      rw [e] at e1
      cases e1
      exact e2
  | .error e, h =>
    obtain ⟨_, _, _, _, _, _, _, _, _, _, _, _, z⟩ := h
    exact z.elim
theorem walk_y {l : PySem.W.OpenLaw} {n : Nat} {q : Program} {loose : List Str} {XP : (Str → Option Value) → Heap → Prop} {YP : World → Heap → Prop} {d : DefRec} {Kp : Params → PySem.W.Frag}
    (hn : l.most = some n) (hn2 : n ≤ sizeLine) (hdf : d.params.defaults = []) (hr : Rg k callerA) (hY : ∀ (w : World) (h : Heap), YP w h → (Kp w.params).In h)
    (F : ∀ (w : World) (mg : Str → Option Value) (fa : Addr) (h : Heap), (Kp w.params).In h → h.Ns mainGlobals mg → mg d.name = some (.ref fa) →
      ∃ (fd : FuncData) (S : Sy), Kp w.params = S.K ∧ (∀ (s : Shared) (u : Value), BindsTo s fd ⟨[u], []⟩ [(x, u)]) ∧ ∀ base : Heap, (Kp w.params).In base → base.Ns mainGlobals mg → FnG l.prog w (Kp w.params) mg base k fa fd [x] (spec S 1 fn))
    (hfn : ∀ ns, ns.length ≤ n → fn [.scr ns] [] = .ok (.bl true) []) : PySem.W.WalkO q loose XP YP l.row.toRowW d [] (fun f vs => PySem.call f vs) := by
  refine Att.attach_call hn hdf fun w s0 s1 mg mb fa o pm cd doc a vs ns G Y ho hd hcd hmg hobj hints hlen hg => ?_
  obtain ⟨fd, S, e1, e2, e3⟩ := F w mg fa _ (hY w _ Y) G.T.g hmg
  exact top_call (hY w _ Y) G.T.g G.T.b G.T.builtins G.T.nolimit hg hobj hints (Nat.le_trans hlen hn2) hr e3 e1 e2 (hfn ns hlen)
theorem rg_top {k : Nat} (h : Room k callerA) : Rg k callerA := ⟨h, rfl⟩
end
end Yk
namespace K01
open PySem PySem.Spec L2 Yk
def topS (i : Nat) : Stmt := PySem.Challenge.pw_halftables_k01_paths_and_ends.main.body.getD i (.Pass ⟨0, 0, 0, 0⟩)

noncomputable section
structure Bl (mg : Str → Option Value) : Prop where
  b_all : mg "all" = none
  b_bool : mg "bool" = none
  b_enumerate : mg "enumerate" = none
  b_int : mg "int" = none
  b_isinstance : mg "isinstance" = none
  b_len : mg "len" = none
  b_list : mg "list" = none
  b_min : mg "min" = none
  b_range : mg "range" = none
  b_repr : mg "repr" = none
  b_set : mg "set" = none
  b_sorted : mg "sorted" = none
  b_sum : mg "sum" = none
  b_zip : mg "zip" = none
  c_MOST_COLUMNS : ∃ t, mg "MOST_COLUMNS" = some (Value.int 8 t)
  c_MOST_ROWS : ∃ t, mg "MOST_ROWS" = some (Value.int 8 t)
abbrev s_is_whole : Stmt := topS 6
theorem sc_is_whole : FnScope ["thing"] ["thing"] (defScope s_is_whole) := ⟨rfl, rfl, rfl, by decide +kernel, rfl, by decide +kernel, by decide +kernel⟩
def b_is_whole : AS := (aRet (aAndV (aCall fIsi (aCons (aVar 0) (aCons (aC (.raw (.ty "int"))) aNil))) (aNotV (aCall fIsi (aCons (aVar 0) (aCons (aC (.raw (.ty "bool"))) aNil))))))
noncomputable def F.is_whole : AF := clean (runF 1 b_is_whole)
abbrev s_way : Stmt := topS 10
theorem sc_way : FnScope ["table", "key", "row", "column", "told", "value"] ["table", "key"] (defScope s_way) := ⟨rfl, rfl, rfl, by decide +kernel, rfl, by decide +kernel, by decide +kernel⟩
def b_way : AS := (aSeq (aPar [2, 3, 4] (aCons (aC (.int 0)) (aCons (aBin fSub (aCall fLen (aCons (aBin fIx (aVar 0) (aC (.int 0))) aNil)) (aC (.int 1))) (aCons (aNew aNil) aNil))))
  (aSeq (aWhile (aAnd (aTest (aBin fLt (aVar 2) (aCall fLen (aCons (aVar 0) aNil)))) (aTest (aBin fGe (aVar 3) (aC (.int 0))))) (aSeq (aSet 5 (aBin fIx (aBin fIx (aVar 0) (aVar 2)) (aVar 3)))
  (aSeq (aExpr (aMethL fApp (aVar 4) (aCons (aTup (aCons (aVar 2) (aCons (aVar 3) aNil))) aNil)))
  (aSeq (aIfS (aTest (aBin (fEqv false) (aVar 5) (aVar 1))) (aRet (aTup (aCons (aVar 4) (aCons (aTup (aCons (aVar 2) (aCons (aVar 3) aNil))) aNil)))) aSkip)
  (aAsg (.tp [(.nm 2), (.nm 3)]) (aIf (aTest (aBin fLt (aVar 5) (aVar 1))) (aTup (aCons (aBin fAdd (aVar 2) (aC (.int 1))) (aCons (aVar 3) aNil))) (aTup (aCons (aVar 2) (aCons (aBin fSub (aVar 3) (aC (.int 1))) aNil)))))))) 1000)
  (aRet (aTup (aCons (aVar 4) (aCons (aTup (aCons (aVar 2) (aCons (aVar 3) aNil))) aNil))))))
noncomputable def F.way : AF := clean (runF 6 b_way)
abbrev s_turned : Stmt := topS 11
theorem sc_turned : FnScope ["table", "row", "column"] ["table"] (defScope s_turned) := ⟨rfl, rfl, rfl, by decide +kernel, rfl, by decide +kernel, by decide +kernel⟩
def b_turned : AS := (aRet (aLc (aItR1 (aCons (aCall fLen (aCons (aBin fIx (aVar 0) (aC (.int 0))) aNil)) aNil)) [2] (.nm 2) aYes (aLc (aItL (aVar 0)) [1] (.nm 1) aYes (aBin fIx (aVar 1) (aVar 2)))))
noncomputable def F.turned : AF := clean (runF 3 b_turned)
abbrev s__law_draws : Stmt := topS 17
theorem sc__law_draws : FnScope ["_law_cell"] ["_law_cell"] (defScope s__law_draws) := ⟨rfl, rfl, rfl, by decide +kernel, rfl, by decide +kernel, by decide +kernel⟩
def b__law_draws : AS := (aRet (aNew (aCons (aBin fMod (aCall fInt (aCons (aVar 0) aNil)) (aBin fPow (aBin fPow (aBin fPow (aC (.int 10)) (aC (.int 60))) (aC (.int 60))) (aC (.int 4)))) (aCons (aC (.int 0)) (aCons (aBin fGe (aVar 0) (aBin fPow (aC (.int 10)) (aC (.int 18)))) aNil)))))
noncomputable def F._law_draws : AF := clean (runF 1 b__law_draws)
abbrev s__law_next : Stmt := topS 18
theorem sc__law_next : FnScope ["_law_draws_here", "_law_k", "_law_number"] ["_law_draws_here"] (defScope s__law_next) := ⟨rfl, rfl, rfl, by decide +kernel, rfl, by decide +kernel, by decide +kernel⟩
def b__law_next : AS := (aSeq (aStore (aBin fAdd (aBin fIx (aVar 0) (aC (.int 1))) (aC (.int 1))) (aVar 0) (aC (.int 1)))
  (aSeq (aSet 1 (aBin fIx (aVar 0) (aC (.int 1))))
  (aSeq (aIfS (aTest (aBin fIx (aVar 0) (aC (.int 2)))) (aSeq (aSet 2 (aBin fMod (aCall fInt (aCons (aBin fIx (aVar 0) (aC (.int 0))) aNil)) (aBin fPow (aC (.int 10)) (aC (.int 6)))))
  (aSeq (aStore (aBin fDiv (aBin fIx (aVar 0) (aC (.int 0))) (aBin fPow (aC (.int 10)) (aC (.int 6)))) (aVar 0) (aC (.int 0)))
  (aRet (aVar 2)))) aSkip)
  (aSeq (aSet 2 (aBin fMod (aCall fInt (aCons (aBin fMul (aBin fAdd (aBin fAdd (aBin fMod (aCall fInt (aCons (aBin fIx (aVar 0) (aC (.int 0))) aNil)) (aC (.int 1000003))) (aBin fMul (aBin fMul (aVar 1) (aVar 1)) (aC (.int 7919)))) (aVar 1)) (aC (.int 48271))) aNil)) (aC (.int 2147483629))))
  (aSeq (aSet 2 (aBin fMod (aCall fInt (aCons (aBin fMul (aVar 2) (aVar 2)) aNil)) (aC (.int 2147483587))))
  (aRet (aBin fDiv (aBin fMod (aCall fInt (aCons (aBin fMul (aVar 2) (aBin fAdd (aVar 2) (aC (.int 2)))) aNil)) (aC (.int 2147483579))) (aC (.int 7)))))))))
noncomputable def F._law_next : AF := clean (runF 3 b__law_next)
abbrev s__law_way : Stmt := topS 22
theorem sc__law_way : FnScope ["_law_net", "_law_a_key", "_law_told", "_law_x", "_law_y"] ["_law_net", "_law_a_key"] (defScope s__law_way) := ⟨rfl, rfl, rfl, by decide +kernel, rfl, by decide +kernel, by decide +kernel⟩
def b__law_way : AS := (aSeq (aSet 2 (aNew aNil))
  (aSeq (aSet 3 (aC (.int 0)))
  (aSeq (aSet 4 (aBin fSub (aCall fLen (aCons (aBin fIx (aVar 0) (aC (.int 0))) aNil)) (aC (.int 1))))
  (aSeq (aWhile (aAnd (aTest (aBin fLt (aVar 3) (aCall fLen (aCons (aVar 0) aNil)))) (aTest (aBin fGe (aVar 4) (aC (.int 0))))) (aSeq (aExpr (aMethL fApp (aVar 2) (aCons (aTup (aCons (aVar 3) (aCons (aVar 4) aNil))) aNil)))
  (aSeq (aIfS (aTest (aBin (fEqv false) (aBin fIx (aBin fIx (aVar 0) (aVar 3)) (aVar 4)) (aVar 1))) (aRet (aTup (aCons (aFrz (aVar 2)) (aCons (aTup (aCons (aVar 3) (aCons (aVar 4) aNil))) aNil)))) aSkip)
  (aIfS (aTest (aBin fLt (aBin fIx (aBin fIx (aVar 0) (aVar 3)) (aVar 4)) (aVar 1))) (aSet 3 (aBin fAdd (aVar 3) (aC (.int 1)))) (aSet 4 (aBin fSub (aVar 4) (aC (.int 1))))))) 1000)
  (aRet (aTup (aCons (aFrz (aVar 2)) (aCons (aTup (aCons (aVar 3) (aCons (aVar 4) aNil))) aNil))))))))
noncomputable def F._law_way : AF := clean (runF 5 b__law_way)
abbrev s__law_keys : Stmt := topS 23
theorem sc__law_keys : FnScope ["_law_net", "_law_told", "_law_some", "_law_value", "_law_one", "_law_other"] ["_law_net"] (defScope s__law_keys) := ⟨rfl, rfl, rfl, by decide +kernel, rfl, by decide +kernel, by decide +kernel⟩
def b__law_keys : AS := (aSeq (aSet 1 (aCall fSortSet (aCons (aCall fSumL (aCons (aVar 0) (aCons (aLst aNil) aNil))) aNil)))
  (aSeq (aSet 2 (aCall fSumL (aCons (aLc (aItL (aVar 1)) [3] (.nm 3) aYes (aLst (aCons (aBin fSub (aVar 3) (aC (.int 1))) (aCons (aVar 3) (aCons (aBin fAdd (aVar 3) (aC (.int 1))) aNil))))) (aCons (aLst aNil) aNil))))
  (aSeq (aSet 2 (aBin fAdd (aVar 2) (aLc (aItZ (aCons (aVar 1) (aCons (aSlice (aVar 1) (aPart (aC (.int 1))) aNoP) aNil))) [4, 5] (.tp [(.nm 4), (.nm 5)]) aYes (aBin fDiv (aBin fAdd (aVar 4) (aVar 5)) (aC (.int 2))))))
  (aRet (aCall fSortSet (aCons (aBin fAdd (aVar 2) (aLst (aCons (aBin fSub (aBin fIx (aVar 1) (aC (.int 0))) (aBin fPow (aC (.int 10)) (aC (.int 19)))) (aCons (aBin fAdd (aBin fIx (aVar 1) (aUn fNeg (aC (.int 1)))) (aBin fPow (aC (.int 10)) (aC (.int 19)))) aNil)))) aNil))))))
noncomputable def F._law_keys : AF := clean (runF 6 b__law_keys)
abbrev s__law_way_up : Stmt := topS 24
theorem sc__law_way_up : FnScope ["_law_net", "_law_a_key", "_law_told", "_law_x", "_law_y"] ["_law_net", "_law_a_key"] (defScope s__law_way_up) := ⟨rfl, rfl, rfl, by decide +kernel, rfl, by decide +kernel, by decide +kernel⟩
def b__law_way_up : AS := (aSeq (aSet 2 (aNew aNil))
  (aSeq (aSet 3 (aBin fSub (aCall fLen (aCons (aVar 0) aNil)) (aC (.int 1))))
  (aSeq (aSet 4 (aC (.int 0)))
  (aSeq (aWhile (aAnd (aTest (aBin fGe (aVar 3) (aC (.int 0)))) (aTest (aBin fLt (aVar 4) (aCall fLen (aCons (aBin fIx (aVar 0) (aC (.int 0))) aNil))))) (aSeq (aExpr (aMethL fApp (aVar 2) (aCons (aTup (aCons (aVar 3) (aCons (aVar 4) aNil))) aNil)))
  (aSeq (aIfS (aTest (aBin (fEqv false) (aBin fIx (aBin fIx (aVar 0) (aVar 3)) (aVar 4)) (aVar 1))) (aRet (aTup (aCons (aFrz (aVar 2)) (aCons (aTup (aCons (aVar 3) (aCons (aVar 4) aNil))) aNil)))) aSkip)
  (aIfS (aTest (aBin fLt (aBin fIx (aBin fIx (aVar 0) (aVar 3)) (aVar 4)) (aVar 1))) (aSet 4 (aBin fAdd (aVar 4) (aC (.int 1)))) (aSet 3 (aBin fSub (aVar 3) (aC (.int 1))))))) 1000)
  (aRet (aTup (aCons (aFrz (aVar 2)) (aCons (aTup (aCons (aVar 3) (aCons (aVar 4) aNil))) aNil))))))))
noncomputable def F._law_way_up : AF := clean (runF 5 b__law_way_up)
abbrev s_is_row : Stmt := topS 7
theorem sc_is_row : FnScope ["thing", "size", "value"] ["thing", "size"] (defScope s_is_row) := ⟨rfl, rfl, rfl, by decide +kernel, rfl, by decide +kernel, by decide +kernel⟩
def b_is_row : AS := (aRet (aAndV (aCall fIsi (aCons (aVar 0) (aCons (aC (.raw (.ty "list"))) aNil))) (aAndV (aBin (fEqv false) (aCall fLen (aCons (aVar 0) aNil)) (aVar 1)) (aCall fAll (aCons (aLc (aItL (aVar 0)) [2] (.nm 2) aYes (aFn 1 F.is_whole (aCons (aVar 2) aNil))) aNil)))))
noncomputable def F.is_row : AF := clean (runF 3 b_is_row)
abbrev s_check_key : Stmt := topS 9
theorem sc_check_key : FnScope ["key"] ["key"] (defScope s_check_key) := ⟨rfl, rfl, rfl, by decide +kernel, rfl, by decide +kernel, by decide +kernel⟩
def b_check_key : AS := (aIfS (aNot (aTest (aFn 1 F.is_whole (aCons (aVar 0) aNil)))) aNever aSkip)
noncomputable def F.check_key : AF := clean (runF 1 b_check_key)
abbrev s__law_order : Stmt := topS 19
theorem sc__law_order : FnScope ["_law_draws_here", "_law_size", "_law_left", "_law_told", "_law_k"] ["_law_draws_here", "_law_size"] (defScope s__law_order) := ⟨rfl, rfl, rfl, by decide +kernel, rfl, by decide +kernel, by decide +kernel⟩
def b__law_order : AS := (aSeq (aSet 2 (aLRng (aVar 1)))
  (aSeq (aSet 3 (aNew aNil))
  (aSeq (aFor (aItR1 (aCons (aVar 1) aNil)) (.nm 4) (aExpr (aMethL fApp (aVar 3) (aCons (aMethL fPopAt (aVar 2) (aCons (aBin fMod (aCall fInt (aCons (aFn 1 F._law_next (aCons (aVar 0) aNil)) aNil)) (aCall fLen (aCons (aVar 2) aNil))) aNil)) aNil))))
  (aRet (aFrz (aVar 3))))))
noncomputable def F._law_order : AF := clean (runF 5 b__law_order)
abbrev s__law_nearly : Stmt := topS 21
theorem sc__law_nearly : FnScope ["_law_draws_here", "_law_some", "_law_kind", "_law_told", "_law_wide", "_law_k", "_law_at", "_law_other"] ["_law_draws_here", "_law_some", "_law_kind"] (defScope s__law_nearly) := ⟨rfl, rfl, rfl, by decide +kernel, rfl, by decide +kernel, by decide +kernel⟩
def b__law_nearly : AS := (aSeq (aSet 3 (aCall fSortedN (aCons (aCall fSumL (aCons (aVar 1) (aCons (aLst aNil) aNil))) aNil)))
  (aSeq (aSet 4 (aCall fLen (aCons (aBin fIx (aVar 1) (aC (.int 0))) aNil)))
  (aSeq (aFor (aItR1 (aCons (aBin fMod (aCall fInt (aCons (aFn 1 F._law_next (aCons (aVar 0) aNil)) aNil)) (aBin fIx (aLst (aCons (aC (.int 1)) (aCons (aC (.int 4)) (aCons (aC (.int 9)) aNil)))) (aBin fSub (aVar 2) (aC (.int 3))))) aNil)) (.nm 5) (aSeq (aSet 6 (aBin fMod (aCall fInt (aCons (aFn 1 F._law_next (aCons (aVar 0) aNil)) aNil)) (aCall fLen (aCons (aVar 3) aNil))))
  (aSeq (aSet 7 (aCall fMin2 (aCons (aBin fAdd (aBin fAdd (aVar 6) (aC (.int 1))) (aBin fMod (aCall fInt (aCons (aFn 1 F._law_next (aCons (aVar 0) aNil)) aNil)) (aC (.int 3)))) (aCons (aBin fSub (aCall fLen (aCons (aVar 3) aNil)) (aC (.int 1))) aNil))))
  (aSwap (aTup (aCons (aBin fIx (aVar 3) (aVar 7)) (aCons (aBin fIx (aVar 3) (aVar 6)) aNil))) (aVar 3) (aVar 6) (aVar 3) (aVar 7)))))
  (aRet (aLc (aItR3 (aCons (aC (.int 0)) (aCons (aCall fLen (aCons (aVar 3) aNil)) (aCons (aVar 4) aNil)))) [6] (.nm 6) aYes (aSlice (aVar 3) (aPart (aVar 6)) (aPart (aBin fAdd (aVar 6) (aVar 4)))))))))
noncomputable def F._law_nearly : AF := clean (runF 8 b__law_nearly)
abbrev s_check_table : Stmt := topS 8
theorem sc_check_table : FnScope ["table", "row", "number"] ["table"] (defScope s_check_table) := ⟨rfl, rfl, rfl, by decide +kernel, rfl, by decide +kernel, by decide +kernel⟩
def b_check_table : AS := (aSeq (aIfS (aOr (aNot (aTest (aCall fIsi (aCons (aVar 0) (aCons (aC (.raw (.ty "list"))) aNil))))) (aNot (aTest (aChain fLe fLe (aC (.int 1)) (aCall fLen (aCons (aVar 0) aNil)) (aC (.int 8)))))) aNever aSkip)
  (aSeq (aIfS (aTest (aBin (fEqv true) (aLc (aItL (aVar 0)) [1] (.nm 1) (aNot (aTest (aCall fIsi (aCons (aVar 1) (aCons (aC (.raw (.ty "list"))) aNil))))) (aVar 1)) (aLst aNil))) aNever aSkip)
  (aFor (aItE (aCons (aVar 0) aNil)) (.tp [(.nm 2), (.nm 1)]) (aIfS (aOr (aNot (aTest (aChain fLe fLe (aC (.int 1)) (aCall fLen (aCons (aVar 1) aNil)) (aC (.int 8))))) (aNot (aTest (aFn 2 F.is_row (aCons (aVar 1) (aCons (aCall fLen (aCons (aBin fIx (aVar 0) (aC (.int 0))) aNil)) aNil)))))) aNever aSkip))))
noncomputable def F.check_table : AF := clean (runF 3 b_check_table)
abbrev s__law_table : Stmt := topS 20
theorem sc__law_table : FnScope ["_law_draws_here", "_law_most", "_law_many", "_law_wide", "_law_kind", "_law_some", "_law_pick", "_law_value", "_law_one", "_law_told", "_law_row"] ["_law_draws_here", "_law_most"] (defScope s__law_table) := ⟨rfl, rfl, rfl, by decide +kernel, rfl, by decide +kernel, by decide +kernel⟩
def b__law_table : AS := (aSeq (aSet 2 (aBin fAdd (aC (.int 1)) (aBin fMod (aCall fInt (aCons (aFn 1 F._law_next (aCons (aVar 0) aNil)) aNil)) (aVar 1))))
  (aSeq (aSet 3 (aBin fAdd (aC (.int 1)) (aBin fMod (aCall fInt (aCons (aFn 1 F._law_next (aCons (aVar 0) aNil)) aNil)) (aVar 1))))
  (aSeq (aSet 4 (aBin fMod (aCall fInt (aCons (aFn 1 F._law_next (aCons (aVar 0) aNil)) aNil)) (aC (.int 7))))
  (aSeq (aSet 5 (aFn 2 F._law_order (aCons (aVar 0) (aCons (aBin fMul (aVar 2) (aVar 3)) aNil))))
  (aSeq (aSet 6 (aCall fInt (aCons (aFn 1 F._law_next (aCons (aVar 0) aNil)) aNil)))
  (aSeq (aIfS (aTest (aBin (fEqv false) (aVar 4) (aC (.int 0)))) (aSet 5 (aLc (aItL (aVar 5)) [7] (.nm 7) aYes (aBin fMod (aCall fInt (aCons (aVar 7) aNil)) (aBin fAdd (aC (.int 2)) (aBin fMod (aCall fInt (aCons (aVar 6) aNil)) (aC (.int 9))))))) aSkip)
  (aSeq (aIfS (aTest (aBin (fEqv false) (aVar 4) (aC (.int 1)))) (aSet 5 (aLc (aItL (aVar 5)) [7] (.nm 7) aYes (aBin fAdd (aBin fMul (aBin fSub (aVar 7) (aC (.int 7))) (aBin fPow (aC (.int 10)) (aC (.int 17)))) (aBin fMod (aCall fInt (aCons (aVar 6) aNil)) (aC (.int 5)))))) (aIfS (aAnd (aTest (aBin (fEqv false) (aVar 4) (aC (.int 6)))) (aTest (aBin fGt (aBin fMod (aCall fInt (aCons (aVar 6) aNil)) (aC (.int 4))) (aC (.int 0))))) (aSet 5 (aLc (aItL (aVar 5)) [8] (.nm 8) aYes (aBin fMod (aCall fInt (aCons (aFn 1 F._law_next (aCons (aVar 0) aNil)) aNil)) (aBin fIx (aLst (aCons (aC (.int 1)) (aCons (aC (.int 2)) (aCons (aC (.int 4)) (aCons (aC (.int 90)) aNil))))) (aBin fMod (aBin fDiv (aCall fInt (aCons (aVar 6) aNil)) (aC (.int 4))) (aC (.int 4))))))) (aIfS (aTest (aBin fGt (aBin fMod (aCall fInt (aCons (aVar 6) aNil)) (aC (.int 4))) (aC (.int 1)))) (aSet 5 (aLc (aItL (aVar 5)) [7] (.nm 7) aYes (aBin fPow (aBin fSub (aVar 7) (aBin fMod (aCall fInt (aCons (aVar 6) aNil)) (aC (.int 29)))) (aC (.int 3))))) (aIfS (aAnd (aTest (aBin (fEqv false) (aBin fMod (aCall fInt (aCons (aVar 6) aNil)) (aC (.int 4))) (aC (.int 1)))) (aTest (aBin fGt (aVar 4) (aC (.int 1))))) (aSet 5 (aLc (aItL (aVar 5)) [7] (.nm 7) aYes (aBin fDiv (aBin fAdd (aVar 7) (aBin fMod (aBin fDiv (aCall fInt (aCons (aVar 6) aNil)) (aC (.int 4))) (aC (.int 2)))) (aC (.int 2))))) aSkip))))
  (aSeq (aSet 9 (aLc (aItR1 (aCons (aVar 2) aNil)) [10] (.nm 10) aYes (aSlice (aVar 5) (aPart (aBin fMul (aVar 10) (aVar 3))) (aPart (aBin fAdd (aBin fMul (aVar 10) (aVar 3)) (aVar 3))))))
  (aSeq (aIfS (aTest (aBin (fEqv false) (aVar 4) (aC (.int 2)))) (aRet (aLc (aItL (aVar 9)) [10] (.nm 10) aYes (aCall fSorted (aCons (aVar 10) aNil)))) aSkip)
  (aSeq (aIfS (aTest (aChain fLt fLt (aC (.int 2)) (aVar 4) (aC (.int 6)))) (aRet (aFn 3 F._law_nearly (aCons (aVar 0) (aCons (aVar 9) (aCons (aVar 4) aNil))))) aSkip)
  (aRet (aVar 9))))))))))))
noncomputable def F._law_table : AF := clean (runF 11 b__law_table)
abbrev s_path : Stmt := topS 12
theorem sc_path : FnScope ["table", "key"] ["table", "key"] (defScope s_path) := ⟨rfl, rfl, rfl, by decide +kernel, rfl, by decide +kernel, by decide +kernel⟩
def b_path : AS := (aSeq (aExpr (aFn 1 F.check_table (aCons (aVar 0) aNil)))
  (aSeq (aExpr (aFn 1 F.check_key (aCons (aVar 1) aNil)))
  (aRet (aBin fIx (aFn 2 F.way (aCons (aVar 0) (aCons (aVar 1) aNil))) (aC (.int 0))))))
noncomputable def F.path : AF := clean (runF 2 b_path)
abbrev s_end : Stmt := topS 13
theorem sc_end : FnScope ["table", "key"] ["table", "key"] (defScope s_end) := ⟨rfl, rfl, rfl, by decide +kernel, rfl, by decide +kernel, by decide +kernel⟩
def b_end : AS := (aSeq (aExpr (aFn 1 F.check_table (aCons (aVar 0) aNil)))
  (aSeq (aExpr (aFn 1 F.check_key (aCons (aVar 1) aNil)))
  (aRet (aBin fIx (aFn 2 F.way (aCons (aVar 0) (aCons (aVar 1) aNil))) (aC (.int 1))))))
noncomputable def F.end : AF := clean (runF 2 b_end)
abbrev s_path_from_below : Stmt := topS 14
theorem sc_path_from_below : FnScope ["table", "key", "column", "row"] ["table", "key"] (defScope s_path_from_below) := ⟨rfl, rfl, rfl, by decide +kernel, rfl, by decide +kernel, by decide +kernel⟩
def b_path_from_below : AS := (aSeq (aExpr (aFn 1 F.check_table (aCons (aVar 0) aNil)))
  (aSeq (aExpr (aFn 1 F.check_key (aCons (aVar 1) aNil)))
  (aRet (aLcN (aItL (aFrz (aBin fIx (aFn 2 F.way (aCons (aFn 1 F.turned (aCons (aVar 0) aNil)) (aCons (aVar 1) aNil))) (aC (.int 0))))) [2, 3] (.tp [(.nm 2), (.nm 3)]) aYes (aTup (aCons (aVar 3) (aCons (aVar 2) aNil)))))))
noncomputable def F.path_from_below : AF := clean (runF 4 b_path_from_below)
abbrev s_end_from_below : Stmt := topS 15
theorem sc_end_from_below : FnScope ["table", "key", "column", "row"] ["table", "key"] (defScope s_end_from_below) := ⟨rfl, rfl, rfl, by decide +kernel, rfl, by decide +kernel, by decide +kernel⟩
def b_end_from_below : AS := (aSeq (aExpr (aFn 1 F.check_table (aCons (aVar 0) aNil)))
  (aSeq (aExpr (aFn 1 F.check_key (aCons (aVar 1) aNil)))
  (aSeq (aAsg (.tp [(.nm 2), (.nm 3)]) (aBin fIx (aFn 2 F.way (aCons (aFn 1 F.turned (aCons (aVar 0) aNil)) (aCons (aVar 1) aNil))) (aC (.int 1))))
  (aRet (aTup (aCons (aVar 3) (aCons (aVar 2) aNil)))))))
noncomputable def F.end_from_below : AF := clean (runF 4 b_end_from_below)
abbrev s__law_right : Stmt := topS 25
theorem sc__law_right : FnScope ["_law_net", "_law_before", "_law_a_key", "_law_due", "_law_stop", "_law_told", "_law_ends", "_law_both"] ["_law_net"] (defScope s__law_right) := ⟨rfl, rfl, rfl, by decide +kernel, rfl, by decide +kernel, by decide +kernel⟩
def b__law_right : AS := (aSeq (aSet 1 (aCall fRepr (aCons (aVar 0) aNil)))
  (aSeq (aFor (aItL (aFn 1 F._law_keys (aCons (aVar 0) aNil))) (.nm 2) (aSeq (aAsg (.tp [(.nm 3), (.nm 4)]) (aFn 2 F._law_way (aCons (aVar 0) (aCons (aVar 2) aNil))))
  (aSeq (aSet 5 (aLst (aCons (aFn 2 F.path (aCons (aVar 0) (aCons (aVar 2) aNil))) (aCons (aFnK 2 F.path 2 [1, 0] (aCons (aVar 2) (aCons (aVar 0) aNil))) aNil))))
  (aSeq (aIfS (aTest (aBin (fEqv true) (aCall fRepr (aCons (aVar 5) aNil)) (aCall fRepr (aCons (aLst (aCons (aVar 3) (aCons (aVar 3) aNil))) aNil)))) (aRet (aC (.bl false))) aSkip)
  (aSeq (aExpr (aMethL fApp (aBin fIx (aVar 5) (aC (.int 0))) (aCons (aC .non) aNil)))
  (aSeq (aSet 6 (aLst (aCons (aFn 2 F.end (aCons (aVar 0) (aCons (aVar 2) aNil))) (aCons (aFnK 2 F.end 2 [1, 0] (aCons (aVar 2) (aCons (aVar 0) aNil))) aNil))))
  (aSeq (aIfS (aOr (aTest (aBin (fEqv true) (aCall fRepr (aCons (aFn 2 F.path (aCons (aVar 0) (aCons (aVar 2) aNil))) aNil)) (aCall fRepr (aCons (aVar 3) aNil)))) (aTest (aBin (fEqv true) (aCall fRepr (aCons (aVar 6) aNil)) (aCall fRepr (aCons (aLst (aCons (aVar 4) (aCons (aVar 4) aNil))) aNil))))) (aRet (aC (.bl false))) aSkip)
  (aSeq (aAsg (.tp [(.nm 3), (.nm 4)]) (aFn 2 F._law_way_up (aCons (aVar 0) (aCons (aVar 2) aNil))))
  (aSeq (aSet 5 (aLst (aCons (aFn 2 F.path_from_below (aCons (aVar 0) (aCons (aVar 2) aNil))) (aCons (aFnK 2 F.path_from_below 2 [1, 0] (aCons (aVar 2) (aCons (aVar 0) aNil))) aNil))))
  (aSeq (aSet 7 (aLst (aCons (aFn 2 F.end_from_below (aCons (aVar 0) (aCons (aVar 2) aNil))) (aCons (aFnK 2 F.end_from_below 2 [1, 0] (aCons (aVar 2) (aCons (aVar 0) aNil))) aNil))))
  (aSeq (aIfS (aOr (aTest (aBin (fEqv true) (aCall fRepr (aCons (aBin fAdd (aVar 5) (aVar 7)) aNil)) (aCall fRepr (aCons (aLst (aCons (aVar 3) (aCons (aVar 3) (aCons (aVar 4) (aCons (aVar 4) aNil))))) aNil)))) (aTest (aBin (fEqv true) (aCall fRepr (aCons (aVar 0) aNil)) (aVar 1)))) (aRet (aC (.bl false))) aSkip)
  (aSeq (aExpr (aMethL fApp (aBin fIx (aVar 5) (aC (.int 0))) (aCons (aC .non) aNil)))
  (aIfS (aTest (aBin (fEqv true) (aCall fRepr (aCons (aFn 2 F.path_from_below (aCons (aVar 0) (aCons (aVar 2) aNil))) aNil)) (aCall fRepr (aCons (aVar 3) aNil)))) (aRet (aC (.bl false))) aSkip)))))))))))))
  (aRet (aBin (fEqv false) (aCall fRepr (aCons (aVar 0) aNil)) (aVar 1)))))
noncomputable def F._law_right : AF := clean (runF 8 b__law_right)
abbrev s_law : Stmt := topS 26
theorem sc_law : FnScope ["_law_script", "_law_draws_here", "_law_cell", "_law_most", "_law_far"] ["_law_script"] (defScope s_law) := ⟨rfl, rfl, rfl, by decide +kernel, rfl, by decide +kernel, by decide +kernel⟩
def b_law : AS := (aSeq (aFor (aItL (aLc (aItL (aBin fAdd (aSlice (aVar 0) aNoP (aPart (aC (.int 6)))) (aLst (aCons (aC (.int 0)) aNil)))) [2] (.nm 2) aYes (aFn 1 F._law_draws (aCons (aVar 2) aNil)))) (.nm 1) (aFor (aItL (aLst (aCons (aC (.int 8)) (aCons (aC (.int 4)) (aCons (aC (.int 3)) aNil))))) (.nm 3) (aIfS (aNot (aTest (aFn 1 F._law_right (aCons (aFn 2 F._law_table (aCons (aVar 1) (aCons (aVar 3) aNil))) aNil)))) (aRet (aC (.bl false))) aSkip)))
  (aSeq (aSet 4 (aBin fMul (aC (.int 8)) (aBin fPow (aC (.int 10)) (aC (.int 19)))))
  (aRet (aAndV (aFn 1 F._law_right (aCons (aLst (aCons (aLst (aCons (aVar 4) (aCons (aUn fNeg (aVar 4)) aNil))) aNil)) aNil)) (aAndV (aFn 1 F._law_right (aCons (aLst (aCons (aLst (aCons (aVar 4) aNil)) (aCons (aLst (aCons (aC (.int 0)) aNil)) (aCons (aLst (aCons (aVar 4) aNil)) aNil)))) aNil)) (aBin (fEqv false) (aFn 2 F.end (aCons (aLst (aCons (aLst (aCons (aC (.int 5)) aNil)) aNil)) (aCons (aC (.int 5)) aNil))) (aTup (aCons (aC (.int 0)) (aCons (aC (.int 0)) aNil)))))))))
noncomputable def F.law : AF := clean (runF 5 b_law)
end
end K01
namespace K01
open PySem PySem.Spec L2 Yk

section
variable {P : Program} {w : World} {K : PySem.W.Frag} {mg : Str → Option Value} {base : Heap} {S : Sy}
theorem ok_is_whole {f : Addr} {fd : FuncData} (Fn : Fun K "is_whole" "is_whole" s_is_whole f fd) (hK : K = S.K) (B : Bl mg)  : FnG P w K mg base 1 f fd ["thing"] (spec S 1 F.is_whole) := by
  refine FnG.imp ?_ clean_spec
  refine fn_y (k := 0) Fn hK sc_is_whole (fun X E G _ _ _ _ _ _ hx => ?_)
  obtain ⟨cdv, A, outer, s, H, rfl⟩ := hx
  exact (ys_one (ys_ret (y_and (y_isi G.K B.b_isinstance (ya_cons (y_var 0) (ya_cons (y_blt B.b_int (by decide +kernel)) ya_nil))) (y_one (y_notV (y_isi G.K B.b_isinstance (ya_cons (y_var 0) (ya_cons (y_blt B.b_bool (by decide +kernel)) ya_nil))))))))
theorem ok_way {f : Addr} {fd : FuncData} (Fn : Fun K "way" "way" s_way f fd) (hK : K = S.K) (B : Bl mg)  : FnG P w K mg base 1 f fd ["table", "key"] (spec S 2 F.way) := by
  refine FnG.imp ?_ clean_spec
  refine fn_y (k := 0) Fn hK sc_way (fun X E G _ _ _ _ _ _ hx => ?_)
  obtain ⟨cdv, A, outer, s, H, rfl⟩ := hx
  exact (ys_cons (ys_par3 2 3 4 G.calm G.nd (ya_cons y_int (ya_cons (yo_bin jo_sub (y_len B.b_len (ya_cons (y_item G (y_var 0) y_int) ya_nil)) y_int) (ya_cons (y_new ya_nil) ya_nil))))
    (ys_cons (ys_while 1000 G.po (PW.pt (yw_and (yo_tcmp jo_lt (y_var 2) (y_len B.b_len (ya_cons (y_var 0) ya_nil))) (yw_and1 (yo_tcmp jo_ge (y_var 3) y_int)))) (ys_cons (ys_set 5 G.nd (y_item G (y_item G (y_var 0) (y_var 2)) (y_var 3)))
    (ys_cons (ys_expr (y_append G (y_var 4) (ya_cons (y_tup (ya_cons (y_var 2) (ya_cons (y_var 3) ya_nil))) ya_nil)))
    (ys_cons (ys_if (yo_tcmp (jo_eq G) (y_var 5) (y_var 1)) (ys_one (ys_ret (y_tup (ya_cons (y_var 4) (ya_cons (y_tup (ya_cons (y_var 2) (ya_cons (y_var 3) ya_nil))) ya_nil))))) ys_nil)
    (ys_one (ys_asg (y_if (yo_tcmp jo_lt (y_var 5) (y_var 1)) (y_tup (ya_cons (yo_bin jo_add (y_var 2) y_int) (ya_cons (y_var 3) ya_nil))) (y_tup (ya_cons (y_var 2) (ya_cons (yo_bin jo_sub (y_var 3) y_int) ya_nil)))) (yg_tup G.calm (ygs_cons (yg_nm 2 G.nd) (ygs_cons (yg_nm 3 G.nd) ygs_nil)))))))))
    (ys_one (ys_ret (y_tup (ya_cons (y_var 4) (ya_cons (y_tup (ya_cons (y_var 2) (ya_cons (y_var 3) ya_nil))) ya_nil)))))))
theorem ok_turned {f : Addr} {fd : FuncData} (Fn : Fun K "turned" "turned" s_turned f fd) (hK : K = S.K) (B : Bl mg)  : FnG P w K mg base 1 f fd ["table"] (spec S 1 F.turned) := by
  refine FnG.imp ?_ clean_spec
  refine fn_y (k := 0) Fn hK sc_turned (fun X E G _ _ _ _ _ _ hx => ?_)
  obtain ⟨cdv, A, outer, s, H, rfl⟩ := hx
  exact (ys_one (ys_ret (y_lc [("column", 2)] G.calm G.nd (yi_range1 B.b_range (ya_cons (y_len B.b_len (ya_cons (y_item G (y_var 0) y_int) ya_nil)) ya_nil)) (by kernel_rfl) (fun s1 H1 C1 cl1 fp1 => (yg_nm 2 (G.blk s1 H1 _ _ fp1).nd)) (fun s1 H1 C1 cl1 fp1 => yts_nil) (fun s1 H1 C1 cl1 fp1 => (y_lc [("row", 1)] (G.blk s1 H1 _ _ fp1).calm (G.blk s1 H1 _ _ fp1).nd (yi_list (G.blk s1 H1 _ _ fp1).K (y_var 0)) (by kernel_rfl) (fun s2 H2 C2 cl2 fp2 => (yg_nm 1 ((G.blk s1 H1 _ _ fp1).blk s2 H2 _ _ fp2).nd)) (fun s2 H2 C2 cl2 fp2 => yts_nil) (fun s2 H2 C2 cl2 fp2 => (y_item ((G.blk s1 H1 _ _ fp1).blk s2 H2 _ _ fp2) (y_var 1) (y_var 2))))))))
theorem ok__law_draws {f : Addr} {fd : FuncData} (Fn : Fun K "_law_draws" "_law_draws" s__law_draws f fd) (hK : K = S.K) (B : Bl mg)  : FnG P w K mg base 1 f fd ["_law_cell"] (spec S 1 F._law_draws) := by
  refine FnG.imp ?_ clean_spec
  refine fn_y (k := 0) Fn hK sc__law_draws (fun X E G _ _ _ _ _ _ hx => ?_)
  obtain ⟨cdv, A, outer, s, H, rfl⟩ := hx
  exact (ys_one (ys_ret (y_new (ya_cons (yo_bin jo_mod (y_int1 B.b_int (ya_cons (y_var 0) ya_nil)) (yo_bin jo_pow (yo_bin jo_pow (yo_bin jo_pow y_int y_int) y_int) y_int)) (ya_cons y_int (ya_cons (yo_cmp jo_ge (y_var 0) (yo_bin jo_pow y_int y_int)) ya_nil))))))
theorem ok__law_next {f : Addr} {fd : FuncData} (Fn : Fun K "_law_next" "_law_next" s__law_next f fd) (hK : K = S.K) (B : Bl mg)  : FnG P w K mg base 1 f fd ["_law_draws_here"] (spec S 1 F._law_next) := by
  refine FnG.imp ?_ clean_spec
  refine fn_y (k := 0) Fn hK sc__law_next (fun X E G _ _ _ _ _ _ hx => ?_)
  obtain ⟨cdv, A, outer, s, H, rfl⟩ := hx
  exact (ys_cons (ys_store (yo_bin jo_add (y_item G (y_var 0) y_int) y_int) (y_var 0) y_int)
    (ys_cons (ys_set 1 G.nd (y_item G (y_var 0) y_int))
    (ys_cons (ys_if (y_test (y_item G (y_var 0) y_int)) (ys_cons (ys_set 2 G.nd (yo_bin jo_mod (y_int1 B.b_int (ya_cons (y_item G (y_var 0) y_int) ya_nil)) (yo_bin jo_pow y_int y_int)))
    (ys_cons (ys_store (yo_bin jo_div (y_item G (y_var 0) y_int) (yo_bin jo_pow y_int y_int)) (y_var 0) y_int)
    (ys_one (ys_ret (y_var 2))))) ys_nil)
    (ys_cons (ys_set 2 G.nd (yo_bin jo_mod (y_int1 B.b_int (ya_cons (yo_bin jo_mul (yo_bin jo_add (yo_bin jo_add (yo_bin jo_mod (y_int1 B.b_int (ya_cons (y_item G (y_var 0) y_int) ya_nil)) y_int) (yo_bin jo_mul (yo_bin jo_mul (y_var 1) (y_var 1)) y_int)) (y_var 1)) y_int) ya_nil)) y_int))
    (ys_cons (ys_set 2 G.nd (yo_bin jo_mod (y_int1 B.b_int (ya_cons (yo_bin jo_mul (y_var 2) (y_var 2)) ya_nil)) y_int))
    (ys_one (ys_ret (yo_bin jo_div (yo_bin jo_mod (y_int1 B.b_int (ya_cons (yo_bin jo_mul (y_var 2) (yo_bin jo_add (y_var 2) y_int)) ya_nil)) y_int) y_int))))))))
theorem ok__law_way {f : Addr} {fd : FuncData} (Fn : Fun K "_law_way" "_law_way" s__law_way f fd) (hK : K = S.K) (B : Bl mg)  : FnG P w K mg base 1 f fd ["_law_net", "_law_a_key"] (spec S 2 F._law_way) := by
  refine FnG.imp ?_ clean_spec
  refine fn_y (k := 0) Fn hK sc__law_way (fun X E G _ _ _ _ _ _ hx => ?_)
  obtain ⟨cdv, A, outer, s, H, rfl⟩ := hx
  exact (ys_cons (ys_set 2 G.nd (y_new ya_nil))
    (ys_cons (ys_set 3 G.nd y_int)
    (ys_cons (ys_set 4 G.nd (yo_bin jo_sub (y_len B.b_len (ya_cons (y_item G (y_var 0) y_int) ya_nil)) y_int))
    (ys_cons (ys_while 1000 G.po (PW.pt (yw_and (yo_tcmp jo_lt (y_var 3) (y_len B.b_len (ya_cons (y_var 0) ya_nil))) (yw_and1 (yo_tcmp jo_ge (y_var 4) y_int)))) (ys_cons (ys_expr (y_append G (y_var 2) (ya_cons (y_tup (ya_cons (y_var 3) (ya_cons (y_var 4) ya_nil))) ya_nil)))
    (ys_cons (ys_if (yo_tcmp (jo_eq G) (y_item G (y_item G (y_var 0) (y_var 3)) (y_var 4)) (y_var 1)) (ys_one (ys_ret (y_tup (ya_cons (y_frz (y_var 2)) (ya_cons (y_tup (ya_cons (y_var 3) (ya_cons (y_var 4) ya_nil))) ya_nil))))) ys_nil)
    (ys_one (ys_if (yo_tcmp jo_lt (y_item G (y_item G (y_var 0) (y_var 3)) (y_var 4)) (y_var 1)) (ys_one (ys_set 3 G.nd (yo_bin jo_add (y_var 3) y_int))) (ys_one (ys_set 4 G.nd (yo_bin jo_sub (y_var 4) y_int))))))))
    (ys_one (ys_ret (y_tup (ya_cons (y_frz (y_var 2)) (ya_cons (y_tup (ya_cons (y_var 3) (ya_cons (y_var 4) ya_nil))) ya_nil)))))))))
theorem ok__law_keys {f : Addr} {fd : FuncData} (Fn : Fun K "_law_keys" "_law_keys" s__law_keys f fd) (hK : K = S.K) (B : Bl mg)  : FnG P w K mg base 1 f fd ["_law_net"] (spec S 1 F._law_keys) := by
  refine FnG.imp ?_ clean_spec
  refine fn_y (k := 0) Fn hK sc__law_keys (fun X E G _ _ _ _ _ _ hx => ?_)
  obtain ⟨cdv, A, outer, s, H, rfl⟩ := hx
  exact (ys_cons (ys_set 1 G.nd (y_sortSet G B.b_sorted B.b_set (ya_cons (y_sumL G B.b_sum (ya_cons (y_var 0) (ya_cons (y_lst ya_nil) ya_nil))) ya_nil)))
    (ys_cons (ys_set 2 G.nd (y_sumL G B.b_sum (ya_cons (y_lc [("_law_value", 3)] G.calm G.nd (yi_list G.K (y_var 1)) (by kernel_rfl) (fun s1 H1 C1 cl1 fp1 => (yg_nm 3 (G.blk s1 H1 _ _ fp1).nd)) (fun s1 H1 C1 cl1 fp1 => yts_nil) (fun s1 H1 C1 cl1 fp1 => (y_lst (ya_cons (yo_bin jo_sub (y_var 3) y_int) (ya_cons (y_var 3) (ya_cons (yo_bin jo_add (y_var 3) y_int) ya_nil)))))) (ya_cons (y_lst ya_nil) ya_nil))))
    (ys_cons (ys_set 2 G.nd (yo_bin jo_add (y_var 2) (y_lc [("_law_one", 4), ("_law_other", 5)] G.calm G.nd (yi_zip B.b_zip (ya_cons (y_var 1) (ya_cons (y_slice G (y_var 1) (yp_some y_int) yp_none) ya_nil))) (by kernel_rfl) (fun s2 H2 C2 cl2 fp2 => (yg_tup (G.blk s2 H2 _ _ fp2).calm (ygs_cons (yg_nm 4 (G.blk s2 H2 _ _ fp2).nd) (ygs_cons (yg_nm 5 (G.blk s2 H2 _ _ fp2).nd) ygs_nil)))) (fun s2 H2 C2 cl2 fp2 => yts_nil) (fun s2 H2 C2 cl2 fp2 => (yo_bin jo_div (yo_bin jo_add (y_var 4) (y_var 5)) y_int)))))
    (ys_one (ys_ret (y_sortSet G B.b_sorted B.b_set (ya_cons (yo_bin jo_add (y_var 2) (y_lst (ya_cons (yo_bin jo_sub (y_item G (y_var 1) y_int) (yo_bin jo_pow y_int y_int)) (ya_cons (yo_bin jo_add (y_item G (y_var 1) (y_un un_neg js_neg y_int)) (yo_bin jo_pow y_int y_int)) ya_nil)))) ya_nil)))))))
theorem ok__law_way_up {f : Addr} {fd : FuncData} (Fn : Fun K "_law_way_up" "_law_way_up" s__law_way_up f fd) (hK : K = S.K) (B : Bl mg)  : FnG P w K mg base 1 f fd ["_law_net", "_law_a_key"] (spec S 2 F._law_way_up) := by
  refine FnG.imp ?_ clean_spec
  refine fn_y (k := 0) Fn hK sc__law_way_up (fun X E G _ _ _ _ _ _ hx => ?_)
  obtain ⟨cdv, A, outer, s, H, rfl⟩ := hx
  exact (ys_cons (ys_set 2 G.nd (y_new ya_nil))
    (ys_cons (ys_set 3 G.nd (yo_bin jo_sub (y_len B.b_len (ya_cons (y_var 0) ya_nil)) y_int))
    (ys_cons (ys_set 4 G.nd y_int)
    (ys_cons (ys_while 1000 G.po (PW.pt (yw_and (yo_tcmp jo_ge (y_var 3) y_int) (yw_and1 (yo_tcmp jo_lt (y_var 4) (y_len B.b_len (ya_cons (y_item G (y_var 0) y_int) ya_nil)))))) (ys_cons (ys_expr (y_append G (y_var 2) (ya_cons (y_tup (ya_cons (y_var 3) (ya_cons (y_var 4) ya_nil))) ya_nil)))
    (ys_cons (ys_if (yo_tcmp (jo_eq G) (y_item G (y_item G (y_var 0) (y_var 3)) (y_var 4)) (y_var 1)) (ys_one (ys_ret (y_tup (ya_cons (y_frz (y_var 2)) (ya_cons (y_tup (ya_cons (y_var 3) (ya_cons (y_var 4) ya_nil))) ya_nil))))) ys_nil)
    (ys_one (ys_if (yo_tcmp jo_lt (y_item G (y_item G (y_var 0) (y_var 3)) (y_var 4)) (y_var 1)) (ys_one (ys_set 4 G.nd (yo_bin jo_add (y_var 4) y_int))) (ys_one (ys_set 3 G.nd (yo_bin jo_sub (y_var 3) y_int))))))))
    (ys_one (ys_ret (y_tup (ya_cons (y_frz (y_var 2)) (ya_cons (y_tup (ya_cons (y_var 3) (ya_cons (y_var 4) ya_nil))) ya_nil)))))))))
theorem ok_is_row {f : Addr} {fd : FuncData} (Fn : Fun K "is_row" "is_row" s_is_row f fd) (hK : K = S.K) (B : Bl mg) (d_is_whole : Def P w K mg base S "is_whole" 1 1 F.is_whole) : FnG P w K mg base 2 f fd ["thing", "size"] (spec S 2 F.is_row) := by
  refine FnG.imp ?_ clean_spec
  refine fn_y (k := 1) Fn hK sc_is_row (fun X E G _ _ _ _ _ _ hx => ?_)
  obtain ⟨cdv, A, outer, s, H, rfl⟩ := hx
  exact (ys_one (ys_ret (y_and (y_isi G.K B.b_isinstance (ya_cons (y_var 0) (ya_cons (y_blt B.b_list (by decide +kernel)) ya_nil))) (y_and (yo_cmp (jo_eq G) (y_len B.b_len (ya_cons (y_var 0) ya_nil)) (y_var 1)) (y_one (y_all G.calm B.b_all (ya_cons (y_lc [("value", 2)] G.calm G.nd (yi_list G.K (y_var 0)) (by kernel_rfl) (fun s1 H1 C1 cl1 fp1 => (yg_nm 2 (G.blk s1 H1 _ _ fp1).nd)) (fun s1 H1 C1 cl1 fp1 => yts_nil) (fun s1 H1 C1 cl1 fp1 => (y_call (G.blk s1 H1 _ _ fp1) d_is_whole (by decide) (ya_cons (y_var 2) ya_nil)))) ya_nil)))))))
theorem ok_check_key {f : Addr} {fd : FuncData} (Fn : Fun K "check_key" "check_key" s_check_key f fd) (hK : K = S.K) (B : Bl mg) (d_is_whole : Def P w K mg base S "is_whole" 1 1 F.is_whole) : FnG P w K mg base 2 f fd ["key"] (spec S 1 F.check_key) := by
  refine FnG.imp ?_ clean_spec
  refine fn_y (k := 1) Fn hK sc_check_key (fun X E G _ _ _ _ _ _ hx => ?_)
  obtain ⟨cdv, A, outer, s, H, rfl⟩ := hx
  exact (ys_one (ys_if (y_not (y_test (y_call G d_is_whole (by decide) (ya_cons (y_var 0) ya_nil)))) (ys_one ys_never) ys_nil))
theorem ok__law_order {f : Addr} {fd : FuncData} (Fn : Fun K "_law_order" "_law_order" s__law_order f fd) (hK : K = S.K) (B : Bl mg) (d__law_next : Def P w K mg base S "_law_next" 1 1 F._law_next) : FnG P w K mg base 2 f fd ["_law_draws_here", "_law_size"] (spec S 2 F._law_order) := by
  refine FnG.imp ?_ clean_spec
  refine fn_y (k := 1) Fn hK sc__law_order (fun X E G _ _ _ _ _ _ hx => ?_)
  obtain ⟨cdv, A, outer, s, H, rfl⟩ := hx
  exact (ys_cons (ys_set 2 G.nd (y_listR G.calm B.b_list B.b_range (y_var 1)))
    (ys_cons (ys_set 3 G.nd (y_new ya_nil))
    (ys_cons (ys_for G.po G.calm (yi_range1 B.b_range (ya_cons (y_var 1) ya_nil)) (yg_nm 4 G.nd) (ys_one (ys_expr (y_append G (y_var 3) (ya_cons (y_popAt G (y_var 2) (ya_cons (yo_bin jo_mod (y_int1 B.b_int (ya_cons (y_call G d__law_next (by decide) (ya_cons (y_var 0) ya_nil)) ya_nil)) (y_len B.b_len (ya_cons (y_var 2) ya_nil))) ya_nil)) ya_nil)))))
    (ys_one (ys_ret (y_frz (y_var 3)))))))
theorem ok__law_nearly {f : Addr} {fd : FuncData} (Fn : Fun K "_law_nearly" "_law_nearly" s__law_nearly f fd) (hK : K = S.K) (B : Bl mg) (d__law_next : Def P w K mg base S "_law_next" 1 1 F._law_next) : FnG P w K mg base 2 f fd ["_law_draws_here", "_law_some", "_law_kind"] (spec S 3 F._law_nearly) := by
  refine FnG.imp ?_ clean_spec
  refine fn_y (k := 1) Fn hK sc__law_nearly (fun X E G _ _ _ _ _ _ hx => ?_)
  obtain ⟨cdv, A, outer, s, H, rfl⟩ := hx
  exact (ys_cons (ys_set 3 G.nd (y_sortedN B.b_sorted (ya_cons (y_sumL G B.b_sum (ya_cons (y_var 1) (ya_cons (y_lst ya_nil) ya_nil))) ya_nil)))
    (ys_cons (ys_set 4 G.nd (y_len B.b_len (ya_cons (y_item G (y_var 1) y_int) ya_nil)))
    (ys_cons (ys_for G.po G.calm (yi_range1 B.b_range (ya_cons (yo_bin jo_mod (y_int1 B.b_int (ya_cons (y_call G d__law_next (by decide) (ya_cons (y_var 0) ya_nil)) ya_nil)) (y_item G (y_lst (ya_cons y_int (ya_cons y_int (ya_cons y_int ya_nil)))) (yo_bin jo_sub (y_var 2) y_int))) ya_nil)) (yg_nm 5 G.nd) (ys_cons (ys_set 6 G.nd (yo_bin jo_mod (y_int1 B.b_int (ya_cons (y_call G d__law_next (by decide) (ya_cons (y_var 0) ya_nil)) ya_nil)) (y_len B.b_len (ya_cons (y_var 3) ya_nil))))
    (ys_cons (ys_set 7 G.nd (y_min2 G.calm B.b_min (ya_cons (yo_bin jo_add (yo_bin jo_add (y_var 6) y_int) (yo_bin jo_mod (y_int1 B.b_int (ya_cons (y_call G d__law_next (by decide) (ya_cons (y_var 0) ya_nil)) ya_nil)) y_int)) (ya_cons (yo_bin jo_sub (y_len B.b_len (ya_cons (y_var 3) ya_nil)) y_int) ya_nil))))
    (ys_one (ys_swap G.calm (y_tup (ya_cons (y_item G (y_var 3) (y_var 7)) (ya_cons (y_item G (y_var 3) (y_var 6)) ya_nil))) (y_var 3) (y_var 6) (y_var 3) (y_var 7))))))
    (ys_one (ys_ret (y_lc [("_law_at", 6)] G.calm G.nd (yi_range3 B.b_range (ya_cons y_int (ya_cons (y_len B.b_len (ya_cons (y_var 3) ya_nil)) (ya_cons (y_var 4) ya_nil)))) (by kernel_rfl) (fun s1 H1 C1 cl1 fp1 => (yg_nm 6 (G.blk s1 H1 _ _ fp1).nd)) (fun s1 H1 C1 cl1 fp1 => yts_nil) (fun s1 H1 C1 cl1 fp1 => (y_slice (G.blk s1 H1 _ _ fp1) (y_var 3) (yp_some (y_var 6)) (yp_some (yo_bin jo_add (y_var 6) (y_var 4)))))))))))
theorem ok_check_table {f : Addr} {fd : FuncData} (Fn : Fun K "check_table" "check_table" s_check_table f fd) (hK : K = S.K) (B : Bl mg) (d_is_row : Def P w K mg base S "is_row" 2 2 F.is_row) : FnG P w K mg base 3 f fd ["table"] (spec S 1 F.check_table) := by
  refine FnG.imp ?_ clean_spec
  refine fn_y (k := 2) Fn hK sc_check_table (fun X E G _ _ _ _ _ _ hx => ?_)
  obtain ⟨cdv, A, outer, s, H, rfl⟩ := hx
  exact (ys_cons (ys_if (PW.pt (yw_or (y_not (y_test (y_isi G.K B.b_isinstance (ya_cons (y_var 0) (ya_cons (y_blt B.b_list (by decide +kernel)) ya_nil))))) (yw_or1 (y_not (yo_tchain jo_le jo_le y_int (y_len B.b_len (ya_cons (y_var 0) ya_nil)) (y_globI B.c_MOST_ROWS)))))) (ys_one ys_never) ys_nil)
    (ys_cons (ys_if (yo_tcmp (jo_ne G) (y_lc [("row", 1)] G.calm G.nd (yi_list G.K (y_var 0)) (by kernel_rfl) (fun s1 H1 C1 cl1 fp1 => (yg_nm 1 (G.blk s1 H1 _ _ fp1).nd)) (fun s1 H1 C1 cl1 fp1 => (yts_one (y_not (y_test (y_isi (G.blk s1 H1 _ _ fp1).K B.b_isinstance (ya_cons (y_var 1) (ya_cons (y_blt B.b_list (by decide +kernel)) ya_nil))))))) (fun s1 H1 C1 cl1 fp1 => (y_var 1))) (y_lst ya_nil)) (ys_one ys_never) ys_nil)
    (ys_one (ys_for G.po G.calm (yi_enum B.b_enumerate (ya_cons (y_var 0) ya_nil)) (yg_tup G.calm (ygs_cons (yg_nm 2 G.nd) (ygs_cons (yg_nm 1 G.nd) ygs_nil))) (ys_one (ys_if (PW.pt (yw_or (y_not (yo_tchain jo_le jo_le y_int (y_len B.b_len (ya_cons (y_var 1) ya_nil)) (y_globI B.c_MOST_COLUMNS))) (yw_or1 (y_not (y_test (y_call G d_is_row (by decide) (ya_cons (y_var 1) (ya_cons (y_len B.b_len (ya_cons (y_item G (y_var 0) y_int) ya_nil)) ya_nil)))))))) (ys_one ys_never) ys_nil))))))
theorem ok__law_table {f : Addr} {fd : FuncData} (Fn : Fun K "_law_table" "_law_table" s__law_table f fd) (hK : K = S.K) (B : Bl mg) (d__law_nearly : Def P w K mg base S "_law_nearly" 2 3 F._law_nearly) (d__law_next : Def P w K mg base S "_law_next" 1 1 F._law_next) (d__law_order : Def P w K mg base S "_law_order" 2 2 F._law_order) : FnG P w K mg base 3 f fd ["_law_draws_here", "_law_most"] (spec S 2 F._law_table) := by
  refine FnG.imp ?_ clean_spec
  refine fn_y (k := 2) Fn hK sc__law_table (fun X E G _ _ _ _ _ _ hx => ?_)
  obtain ⟨cdv, A, outer, s, H, rfl⟩ := hx
  exact (ys_cons (ys_set 2 G.nd (yo_bin jo_add y_int (yo_bin jo_mod (y_int1 B.b_int (ya_cons (y_call G d__law_next (by decide) (ya_cons (y_var 0) ya_nil)) ya_nil)) (y_var 1))))
    (ys_cons (ys_set 3 G.nd (yo_bin jo_add y_int (yo_bin jo_mod (y_int1 B.b_int (ya_cons (y_call G d__law_next (by decide) (ya_cons (y_var 0) ya_nil)) ya_nil)) (y_var 1))))
    (ys_cons (ys_set 4 G.nd (yo_bin jo_mod (y_int1 B.b_int (ya_cons (y_call G d__law_next (by decide) (ya_cons (y_var 0) ya_nil)) ya_nil)) y_int))
    (ys_cons (ys_set 5 G.nd (y_call G d__law_order (by decide) (ya_cons (y_var 0) (ya_cons (yo_bin jo_mul (y_var 2) (y_var 3)) ya_nil))))
    (ys_cons (ys_set 6 G.nd (y_int1 B.b_int (ya_cons (y_call G d__law_next (by decide) (ya_cons (y_var 0) ya_nil)) ya_nil)))
    (ys_cons (ys_if (yo_tcmp (jo_eq G) (y_var 4) y_int) (ys_one (ys_set 5 G.nd (y_lc [("_law_value", 7)] G.calm G.nd (yi_list G.K (y_var 5)) (by kernel_rfl) (fun s1 H1 C1 cl1 fp1 => (yg_nm 7 (G.blk s1 H1 _ _ fp1).nd)) (fun s1 H1 C1 cl1 fp1 => yts_nil) (fun s1 H1 C1 cl1 fp1 => (yo_bin jo_mod (y_int1 B.b_int (ya_cons (y_var 7) ya_nil)) (yo_bin jo_add y_int (yo_bin jo_mod (y_int1 B.b_int (ya_cons (y_var 6) ya_nil)) y_int))))))) ys_nil)
    (ys_cons (ys_if (yo_tcmp (jo_eq G) (y_var 4) y_int) (ys_one (ys_set 5 G.nd (y_lc [("_law_value", 7)] G.calm G.nd (yi_list G.K (y_var 5)) (by kernel_rfl) (fun s2 H2 C2 cl2 fp2 => (yg_nm 7 (G.blk s2 H2 _ _ fp2).nd)) (fun s2 H2 C2 cl2 fp2 => yts_nil) (fun s2 H2 C2 cl2 fp2 => (yo_bin jo_add (yo_bin jo_mul (yo_bin jo_sub (y_var 7) y_int) (yo_bin jo_pow y_int y_int)) (yo_bin jo_mod (y_int1 B.b_int (ya_cons (y_var 6) ya_nil)) y_int)))))) (ys_one (ys_if (PW.pt (yw_and (yo_tcmp (jo_eq G) (y_var 4) y_int) (yw_and1 (yo_tcmp jo_gt (yo_bin jo_mod (y_int1 B.b_int (ya_cons (y_var 6) ya_nil)) y_int) y_int)))) (ys_one (ys_set 5 G.nd (y_lc [("_law_one", 8)] G.calm G.nd (yi_list G.K (y_var 5)) (by kernel_rfl) (fun s3 H3 C3 cl3 fp3 => (yg_nm 8 (G.blk s3 H3 _ _ fp3).nd)) (fun s3 H3 C3 cl3 fp3 => yts_nil) (fun s3 H3 C3 cl3 fp3 => (yo_bin jo_mod (y_int1 B.b_int (ya_cons (y_call (G.blk s3 H3 _ _ fp3) d__law_next (by decide) (ya_cons (y_var 0) ya_nil)) ya_nil)) (y_item (G.blk s3 H3 _ _ fp3) (y_lst (ya_cons y_int (ya_cons y_int (ya_cons y_int (ya_cons y_int ya_nil))))) (yo_bin jo_mod (yo_bin jo_div (y_int1 B.b_int (ya_cons (y_var 6) ya_nil)) y_int) y_int))))))) (ys_one (ys_if (yo_tcmp jo_gt (yo_bin jo_mod (y_int1 B.b_int (ya_cons (y_var 6) ya_nil)) y_int) y_int) (ys_one (ys_set 5 G.nd (y_lc [("_law_value", 7)] G.calm G.nd (yi_list G.K (y_var 5)) (by kernel_rfl) (fun s4 H4 C4 cl4 fp4 => (yg_nm 7 (G.blk s4 H4 _ _ fp4).nd)) (fun s4 H4 C4 cl4 fp4 => yts_nil) (fun s4 H4 C4 cl4 fp4 => (yo_bin jo_pow (yo_bin jo_sub (y_var 7) (yo_bin jo_mod (y_int1 B.b_int (ya_cons (y_var 6) ya_nil)) y_int)) y_int))))) (ys_one (ys_if (PW.pt (yw_and (yo_tcmp (jo_eq G) (yo_bin jo_mod (y_int1 B.b_int (ya_cons (y_var 6) ya_nil)) y_int) y_int) (yw_and1 (yo_tcmp jo_gt (y_var 4) y_int)))) (ys_one (ys_set 5 G.nd (y_lc [("_law_value", 7)] G.calm G.nd (yi_list G.K (y_var 5)) (by kernel_rfl) (fun s5 H5 C5 cl5 fp5 => (yg_nm 7 (G.blk s5 H5 _ _ fp5).nd)) (fun s5 H5 C5 cl5 fp5 => yts_nil) (fun s5 H5 C5 cl5 fp5 => (yo_bin jo_div (yo_bin jo_add (y_var 7) (yo_bin jo_mod (yo_bin jo_div (y_int1 B.b_int (ya_cons (y_var 6) ya_nil)) y_int) y_int)) y_int))))) ys_nil)))))))
    (ys_cons (ys_setLc 9 [("_law_row", 10)] G.calm G.nd (yi_range1 B.b_range (ya_cons (y_var 2) ya_nil)) (by kernel_rfl) (fun s6 H6 C6 cl6 fp6 => (yg_nm 10 (G.blk s6 H6 _ _ fp6).nd)) (fun s6 H6 C6 cl6 fp6 => yts_nil) (fun s6 H6 C6 cl6 fp6 => (y_slice (G.blk s6 H6 _ _ fp6) (y_var 5) (yp_some (yo_bin jo_mul (y_var 10) (y_var 3))) (yp_some (yo_bin jo_add (yo_bin jo_mul (y_var 10) (y_var 3)) (y_var 3))))) (sw_true rfl rfl rfl (by decide +kernel)))
    (ys_cons (ys_if (yo_tcmp (jo_eq G) (y_var 4) y_int) (ys_one (ys_ret (y_lc [("_law_row", 10)] G.calm G.nd (yi_list G.K (y_var 9)) (by kernel_rfl) (fun s7 H7 C7 cl7 fp7 => (yg_nm 10 (G.blk s7 H7 _ _ fp7).nd)) (fun s7 H7 C7 cl7 fp7 => yts_nil) (fun s7 H7 C7 cl7 fp7 => (y_sorted B.b_sorted (ya_cons (y_var 10) ya_nil)))))) ys_nil)
    (ys_cons (ys_if (yo_tchain jo_lt jo_lt y_int (y_var 4) y_int) (ys_one (ys_ret (y_call G d__law_nearly (by decide) (ya_cons (y_var 0) (ya_cons (y_var 9) (ya_cons (y_var 4) ya_nil)))))) ys_nil)
    (ys_one (ys_ret (y_var 9)))))))))))))
theorem ok_path {f : Addr} {fd : FuncData} (Fn : Fun K "path" "path" s_path f fd) (hK : K = S.K) (B : Bl mg) (d_check_key : Def P w K mg base S "check_key" 2 1 F.check_key) (d_check_table : Def P w K mg base S "check_table" 3 1 F.check_table) (d_way : Def P w K mg base S "way" 1 2 F.way) : FnG P w K mg base 4 f fd ["table", "key"] (spec S 2 F.path) := by
  refine FnG.imp ?_ clean_spec
  refine fn_y (k := 3) Fn hK sc_path (fun X E G _ _ _ _ _ _ hx => ?_)
  obtain ⟨cdv, A, outer, s, H, rfl⟩ := hx
  exact (ys_cons (ys_expr (y_call G d_check_table (by decide) (ya_cons (y_var 0) ya_nil)))
    (ys_cons (ys_expr (y_call G d_check_key (by decide) (ya_cons (y_var 1) ya_nil)))
    (ys_one (ys_ret (y_item G (y_call G d_way (by decide) (ya_cons (y_var 0) (ya_cons (y_var 1) ya_nil))) y_int)))))
theorem ok_end {f : Addr} {fd : FuncData} (Fn : Fun K "end" "end" s_end f fd) (hK : K = S.K) (B : Bl mg) (d_check_key : Def P w K mg base S "check_key" 2 1 F.check_key) (d_check_table : Def P w K mg base S "check_table" 3 1 F.check_table) (d_way : Def P w K mg base S "way" 1 2 F.way) : FnG P w K mg base 4 f fd ["table", "key"] (spec S 2 F.end) := by
  refine FnG.imp ?_ clean_spec
  refine fn_y (k := 3) Fn hK sc_end (fun X E G _ _ _ _ _ _ hx => ?_)
  obtain ⟨cdv, A, outer, s, H, rfl⟩ := hx
  exact (ys_cons (ys_expr (y_call G d_check_table (by decide) (ya_cons (y_var 0) ya_nil)))
    (ys_cons (ys_expr (y_call G d_check_key (by decide) (ya_cons (y_var 1) ya_nil)))
    (ys_one (ys_ret (y_item G (y_call G d_way (by decide) (ya_cons (y_var 0) (ya_cons (y_var 1) ya_nil))) y_int)))))
theorem ok_path_from_below {f : Addr} {fd : FuncData} (Fn : Fun K "path_from_below" "path_from_below" s_path_from_below f fd) (hK : K = S.K) (B : Bl mg) (d_check_key : Def P w K mg base S "check_key" 2 1 F.check_key) (d_check_table : Def P w K mg base S "check_table" 3 1 F.check_table) (d_turned : Def P w K mg base S "turned" 1 1 F.turned) (d_way : Def P w K mg base S "way" 1 2 F.way) : FnG P w K mg base 4 f fd ["table", "key"] (spec S 2 F.path_from_below) := by
  refine FnG.imp ?_ clean_spec
  refine fn_y (k := 3) Fn hK sc_path_from_below (fun X E G _ _ _ _ _ _ hx => ?_)
  obtain ⟨cdv, A, outer, s, H, rfl⟩ := hx
  exact (ys_cons (ys_expr (y_call G d_check_table (by decide) (ya_cons (y_var 0) ya_nil)))
    (ys_cons (ys_expr (y_call G d_check_key (by decide) (ya_cons (y_var 1) ya_nil)))
    (ys_one (ys_ret (y_lcN [("column", 2), ("row", 3)] G.calm G.nd (yi_list G.K (y_frz (y_item G (y_call G d_way (by decide) (ya_cons (y_call G d_turned (by decide) (ya_cons (y_var 0) ya_nil)) (ya_cons (y_var 1) ya_nil))) y_int))) (by kernel_rfl) (fun s1 H1 C1 cl1 fp1 => (yg_tup (G.blk s1 H1 _ _ fp1).calm (ygs_cons (yg_nm 2 (G.blk s1 H1 _ _ fp1).nd) (ygs_cons (yg_nm 3 (G.blk s1 H1 _ _ fp1).nd) ygs_nil)))) (fun s1 H1 C1 cl1 fp1 => yts_nil) (fun s1 H1 C1 cl1 fp1 => (y_tup (ya_cons (y_var 3) (ya_cons (y_var 2) ya_nil)))))))))
theorem ok_end_from_below {f : Addr} {fd : FuncData} (Fn : Fun K "end_from_below" "end_from_below" s_end_from_below f fd) (hK : K = S.K) (B : Bl mg) (d_check_key : Def P w K mg base S "check_key" 2 1 F.check_key) (d_check_table : Def P w K mg base S "check_table" 3 1 F.check_table) (d_turned : Def P w K mg base S "turned" 1 1 F.turned) (d_way : Def P w K mg base S "way" 1 2 F.way) : FnG P w K mg base 4 f fd ["table", "key"] (spec S 2 F.end_from_below) := by
  refine FnG.imp ?_ clean_spec
  refine fn_y (k := 3) Fn hK sc_end_from_below (fun X E G _ _ _ _ _ _ hx => ?_)
  obtain ⟨cdv, A, outer, s, H, rfl⟩ := hx
  exact (ys_cons (ys_expr (y_call G d_check_table (by decide) (ya_cons (y_var 0) ya_nil)))
    (ys_cons (ys_expr (y_call G d_check_key (by decide) (ya_cons (y_var 1) ya_nil)))
    (ys_cons (ys_asg (y_item G (y_call G d_way (by decide) (ya_cons (y_call G d_turned (by decide) (ya_cons (y_var 0) ya_nil)) (ya_cons (y_var 1) ya_nil))) y_int) (yg_tup G.calm (ygs_cons (yg_nm 2 G.nd) (ygs_cons (yg_nm 3 G.nd) ygs_nil))))
    (ys_one (ys_ret (y_tup (ya_cons (y_var 3) (ya_cons (y_var 2) ya_nil))))))))
theorem ok__law_right {f : Addr} {fd : FuncData} (Fn : Fun K "_law_right" "_law_right" s__law_right f fd) (hK : K = S.K) (B : Bl mg) (d__law_keys : Def P w K mg base S "_law_keys" 1 1 F._law_keys) (d__law_way : Def P w K mg base S "_law_way" 1 2 F._law_way) (d__law_way_up : Def P w K mg base S "_law_way_up" 1 2 F._law_way_up) (d_end : Def P w K mg base S "end" 4 2 F.end) (d_end_from_below : Def P w K mg base S "end_from_below" 4 2 F.end_from_below) (d_path : Def P w K mg base S "path" 4 2 F.path) (d_path_from_below : Def P w K mg base S "path_from_below" 4 2 F.path_from_below) (k_end_1_0 : DefK P w K mg base S "end" 4 2 F.end ["key", "table"] [1, 0]) (k_end_from_below_1_0 : DefK P w K mg base S "end_from_below" 4 2 F.end_from_below ["key", "table"] [1, 0]) (k_path_1_0 : DefK P w K mg base S "path" 4 2 F.path ["key", "table"] [1, 0]) (k_path_from_below_1_0 : DefK P w K mg base S "path_from_below" 4 2 F.path_from_below ["key", "table"] [1, 0]) : FnG P w K mg base 5 f fd ["_law_net"] (spec S 1 F._law_right) := by
  refine FnG.imp ?_ clean_spec
  refine fn_y (k := 4) Fn hK sc__law_right (fun X E G _ _ _ _ _ _ hx => ?_)
  obtain ⟨cdv, A, outer, s, H, rfl⟩ := hx
  exact (ys_cons (ys_set 1 G.nd (y_repr G B.b_repr (ya_cons (y_var 0) ya_nil)))
    (ys_cons (ys_for G.po G.calm (yi_list G.K (y_call G d__law_keys (by decide) (ya_cons (y_var 0) ya_nil))) (yg_nm 2 G.nd) (ys_cons (ys_asg (y_call G d__law_way (by decide) (ya_cons (y_var 0) (ya_cons (y_var 2) ya_nil))) (yg_tup G.calm (ygs_cons (yg_nm 3 G.nd) (ygs_cons (yg_nm 4 G.nd) ygs_nil))))
    (ys_cons (ys_set 5 G.nd (y_lst (ya_cons (y_call G d_path (by decide) (ya_cons (y_var 0) (ya_cons (y_var 2) ya_nil))) (ya_cons (y_callK G k_path_1_0 (by decide) (yk_cons (y_var 2) (yk_cons (y_var 0) yk_nil))) ya_nil))))
    (ys_cons (ys_if (yo_tcmp (jo_ne G) (y_repr G B.b_repr (ya_cons (y_var 5) ya_nil)) (y_repr G B.b_repr (ya_cons (y_lst (ya_cons (y_var 3) (ya_cons (y_var 3) ya_nil))) ya_nil))) (ys_one (ys_ret y_bl)) ys_nil)
    (ys_cons (ys_expr (y_append G (y_item G (y_var 5) y_int) (ya_cons y_non ya_nil)))
    (ys_cons (ys_set 6 G.nd (y_lst (ya_cons (y_call G d_end (by decide) (ya_cons (y_var 0) (ya_cons (y_var 2) ya_nil))) (ya_cons (y_callK G k_end_1_0 (by decide) (yk_cons (y_var 2) (yk_cons (y_var 0) yk_nil))) ya_nil))))
    (ys_cons (ys_if (PW.pt (yw_or (yo_tcmp (jo_ne G) (y_repr G B.b_repr (ya_cons (y_call G d_path (by decide) (ya_cons (y_var 0) (ya_cons (y_var 2) ya_nil))) ya_nil)) (y_repr G B.b_repr (ya_cons (y_var 3) ya_nil))) (yw_or1 (yo_tcmp (jo_ne G) (y_repr G B.b_repr (ya_cons (y_var 6) ya_nil)) (y_repr G B.b_repr (ya_cons (y_lst (ya_cons (y_var 4) (ya_cons (y_var 4) ya_nil))) ya_nil)))))) (ys_one (ys_ret y_bl)) ys_nil)
    (ys_cons (ys_asg (y_call G d__law_way_up (by decide) (ya_cons (y_var 0) (ya_cons (y_var 2) ya_nil))) (yg_tup G.calm (ygs_cons (yg_nm 3 G.nd) (ygs_cons (yg_nm 4 G.nd) ygs_nil))))
    (ys_cons (ys_set 5 G.nd (y_lst (ya_cons (y_call G d_path_from_below (by decide) (ya_cons (y_var 0) (ya_cons (y_var 2) ya_nil))) (ya_cons (y_callK G k_path_from_below_1_0 (by decide) (yk_cons (y_var 2) (yk_cons (y_var 0) yk_nil))) ya_nil))))
    (ys_cons (ys_set 7 G.nd (y_lst (ya_cons (y_call G d_end_from_below (by decide) (ya_cons (y_var 0) (ya_cons (y_var 2) ya_nil))) (ya_cons (y_callK G k_end_from_below_1_0 (by decide) (yk_cons (y_var 2) (yk_cons (y_var 0) yk_nil))) ya_nil))))
    (ys_cons (ys_if (PW.pt (yw_or (yo_tcmp (jo_ne G) (y_repr G B.b_repr (ya_cons (yo_bin jo_add (y_var 5) (y_var 7)) ya_nil)) (y_repr G B.b_repr (ya_cons (y_lst (ya_cons (y_var 3) (ya_cons (y_var 3) (ya_cons (y_var 4) (ya_cons (y_var 4) ya_nil))))) ya_nil))) (yw_or1 (yo_tcmp (jo_ne G) (y_repr G B.b_repr (ya_cons (y_var 0) ya_nil)) (y_var 1))))) (ys_one (ys_ret y_bl)) ys_nil)
    (ys_cons (ys_expr (y_append G (y_item G (y_var 5) y_int) (ya_cons y_non ya_nil)))
    (ys_one (ys_if (yo_tcmp (jo_ne G) (y_repr G B.b_repr (ya_cons (y_call G d_path_from_below (by decide) (ya_cons (y_var 0) (ya_cons (y_var 2) ya_nil))) ya_nil)) (y_repr G B.b_repr (ya_cons (y_var 3) ya_nil))) (ys_one (ys_ret y_bl)) ys_nil))))))))))))))
    (ys_one (ys_ret (yo_cmp (jo_eq G) (y_repr G B.b_repr (ya_cons (y_var 0) ya_nil)) (y_var 1))))))
theorem ok_law {f : Addr} {fd : FuncData} (Fn : Fun K "law" "law" s_law f fd) (hK : K = S.K) (B : Bl mg) (d__law_draws : Def P w K mg base S "_law_draws" 1 1 F._law_draws) (d__law_right : Def P w K mg base S "_law_right" 5 1 F._law_right) (d__law_table : Def P w K mg base S "_law_table" 3 2 F._law_table) (d_end : Def P w K mg base S "end" 4 2 F.end) : FnG P w K mg base 6 f fd ["_law_script"] (spec S 1 F.law) := by
  refine FnG.imp ?_ clean_spec
  refine fn_y (k := 5) Fn hK sc_law (fun X E G _ _ _ _ _ _ hx => ?_)
  obtain ⟨cdv, A, outer, s, H, rfl⟩ := hx
  exact (ys_cons (ys_for G.po G.calm (yi_list G.K (y_lc [("_law_cell", 2)] G.calm G.nd (yi_list G.K (yo_bin jo_add (y_slice G (y_var 0) yp_none (yp_some y_int)) (y_lst (ya_cons y_int ya_nil)))) (by kernel_rfl) (fun s1 H1 C1 cl1 fp1 => (yg_nm 2 (G.blk s1 H1 _ _ fp1).nd)) (fun s1 H1 C1 cl1 fp1 => yts_nil) (fun s1 H1 C1 cl1 fp1 => (y_call (G.blk s1 H1 _ _ fp1) d__law_draws (by decide) (ya_cons (y_var 2) ya_nil))))) (yg_nm 1 G.nd) (ys_one (ys_for G.po G.calm (yi_list G.K (y_lst (ya_cons y_int (ya_cons y_int (ya_cons y_int ya_nil))))) (yg_nm 3 G.nd) (ys_one (ys_if (y_not (y_test (y_call G d__law_right (by decide) (ya_cons (y_call G d__law_table (by decide) (ya_cons (y_var 1) (ya_cons (y_var 3) ya_nil))) ya_nil)))) (ys_one (ys_ret y_bl)) ys_nil)))))
    (ys_cons (ys_set 4 G.nd (yo_bin jo_mul y_int (yo_bin jo_pow y_int y_int)))
    (ys_one (ys_ret (y_and (y_call G d__law_right (by decide) (ya_cons (y_lst (ya_cons (y_lst (ya_cons (y_var 4) (ya_cons (y_un un_neg js_neg (y_var 4)) ya_nil))) ya_nil)) ya_nil)) (y_and (y_call G d__law_right (by decide) (ya_cons (y_lst (ya_cons (y_lst (ya_cons (y_var 4) ya_nil)) (ya_cons (y_lst (ya_cons y_int ya_nil)) (ya_cons (y_lst (ya_cons (y_var 4) ya_nil)) ya_nil)))) ya_nil)) (y_one (yo_cmp (jo_eq G) (y_call G d_end (by decide) (ya_cons (y_lst (ya_cons (y_lst (ya_cons y_int ya_nil)) ya_nil)) (ya_cons y_int ya_nil))) (y_tup (ya_cons y_int (ya_cons y_int ya_nil)))))))))))
end
end K01
namespace K01
open PySem PySem.Spec L2 Yk
noncomputable section
local macro_rules | `(tactic| walk_at "ev") => `(tactic| simp only [runF, outF_nx, outF_rt, outF_exc, isi_int_int, isi_int_bool, isi_int_list, isi_int_tuple, isi_bl_int, isi_bl_bool, isi_lst_list, isi_lst_int, isi_tup_tuple, ev_bin, ev_two, ev_b, ev_un, ev_var, ev_c, ev_test, ev_asBl, sel_t, sel_f, ev_and, ev_or, ev_not, ev_if, selV_t, selV_f, ev_andV, ev_orV, ev_notV, notV_ok, ev_chain, chain_ok, ch2_ok, ch3_ok, ev_nil, ev_cons, cons_ok, push_ok, ev_tup, ev_lst, ev_new, mkTup2, mkLst0, mkNew0, mkTup_ok, mkLst_ok, ev_frz, ev_call, ev_fn, fnV1, fnV2, fnV3, ev_fnK, fnK2_10, fnK1, ev_meth, ev_seq, seq_nx, seq_rt, seq_bk, seq_ct, ev_skip, ev_set, st_ok, ev_asg, asg2, ev_par, par2, par3, ev_expr, ex_ok, ev_ret, ret_ok, ev_ifS, ite_t, ite_f, ev_for, it_ok, ev_itL, itL_ok, ev_itR1, ev_itR2, ev_itE, itE_ok, ev_itZ, itZ_ok, ev_lc, ev_lcN, lc_ok, lcV_ok, lcVN_ok, wipeA, ev_add, ev_sub, ev_lt, ev_le, ev_gt, ev_ge, ev_neg, ev_eqI, ev_eqS, ev_int, ev_int_b, ev_min2, ev_len_l, ev_len_t, ev_noP, ev_part, part_ok, ev_slice, sl_ok, sl2_ok, sl3_lst, List.getElem?_cons_zero, List.getElem?_cons_succ, List.set_cons_zero, List.set_cons_succ, List.map_cons, List.map_nil, List.length_cons, List.length_nil, List.replicate_succ, List.replicate_zero, List.cons_append, List.nil_append, Nat.reduceAdd, Nat.reduceSub, Nat.reduceLeDiff, if_true, if_false, Bool.false_eq_true, reduceIte, Bool.not_true, Bool.not_false, decide_true, decide_false])
local macro_rules | `(tactic| walk_at "evh") => `(tactic| simp only [runF, outF_nx, outF_rt, outF_exc, isi_int_int, isi_int_bool, isi_int_list, isi_int_tuple, isi_bl_int, isi_bl_bool, isi_lst_list, isi_lst_int, isi_tup_tuple, ev_bin, ev_two, ev_b, ev_un, ev_var, ev_c, ev_test, ev_asBl, sel_t, sel_f, ev_and, ev_or, ev_not, ev_if, selV_t, selV_f, ev_andV, ev_orV, ev_notV, notV_ok, ev_chain, chain_ok, ch2_ok, ch3_ok, ev_nil, ev_cons, cons_ok, push_ok, ev_tup, ev_lst, ev_new, mkTup2, mkLst0, mkNew0, mkTup_ok, mkLst_ok, ev_frz, ev_call, ev_fn, fnV1, fnV2, fnV3, ev_fnK, fnK2_10, fnK1, ev_meth, ev_seq, seq_nx, seq_rt, seq_bk, seq_ct, ev_skip, ev_set, st_ok, ev_asg, asg2, ev_par, par2, par3, ev_expr, ex_ok, ev_ret, ret_ok, ev_ifS, ite_t, ite_f, ev_for, it_ok, ev_itL, itL_ok, ev_itR1, ev_itR2, ev_itE, itE_ok, ev_itZ, itZ_ok, ev_lc, ev_lcN, lc_ok, lcV_ok, lcVN_ok, wipeA, ev_add, ev_sub, ev_lt, ev_le, ev_gt, ev_ge, ev_neg, ev_eqI, ev_eqS, ev_int, ev_int_b, ev_min2, ev_len_l, ev_len_t, ev_noP, ev_part, part_ok, ev_slice, sl_ok, sl2_ok, sl3_lst, List.getElem?_cons_zero, List.getElem?_cons_succ, List.set_cons_zero, List.set_cons_succ, List.map_cons, List.map_nil, List.length_cons, List.length_nil, List.replicate_succ, List.replicate_zero, List.cons_append, List.nil_append, Nat.reduceAdd, Nat.reduceSub, Nat.reduceLeDiff, if_true, if_false, Bool.false_eq_true, reduceIte, Bool.not_true, Bool.not_false, decide_true, decide_false, *])
theorem F_is_whole (i : Int) (M : Mem) : F.is_whole [.int i] M = .ok (.bl true) M := by
  refine clean_pure ?_ rfl
  unfold b_is_whole
  walk_at "ev"
def row (r : List Int) : AV := .lst (r.map .int)
def tab (t : List (List Int)) : AV := .lst (t.map row)
theorem F_is_row (r : List Int) (h : r.length ≤ 1000) (M : Mem) : F.is_row [row r, .int r.length] M = .ok (.bl true) M := by
  refine clean_pure ?_ rfl
  have e := F_is_whole
  unfold b_is_row row
  walk_at "ev"
  rw [List.length_map, decide_eq_true rfl]
  walk_at "ev"
  rw [lcL_map (g := AV.int) (h := fun _ => AV.bl true) (fun z _ => ⟨_, rfl, fun M => by walk_at "evh"⟩) [] (by simp; omega)]
  walk_at "ev"
  rw [ev_all_l (bs := r.map fun _ => true) (by rw [← blsOf_map, List.map_map]; rfl)]
  walk_at "ev"
  congr 2
  simp
structure OkT (t : List (List Int)) (n : Nat) : Prop where
  r1 : 1 ≤ t.length
  r8 : t.length ≤ 8
  c1 : 1 ≤ n
  c8 : n ≤ 8
  len : ∀ r ∈ t, r.length = n
  big : ∀ r ∈ t, ∀ v ∈ r, v.natAbs < 2 ^ 100
theorem ne_nil_nil {M : Mem} : fEqv true (.lst []) (.lst []) M = .ok (.bl false) M := by rfl
theorem tab_0 {t : List (List Int)} {n : Nat} (h : OkT t n) (M : Mem) : fIx (tab t) (.int 0) M = .ok (row (t.headD [])) M := by
  have := h.r1
  cases t with
  | nil => simp at this
  | cons r t => exact ev_ix_l (Int.le_refl 0) rfl
theorem head_len {t : List (List Int)} {n : Nat} (h : OkT t n) : (t.headD []).length = n := by
  have := h.r1
  cases t with
  | nil => simp at this
  | cons r t => exact h.len r List.mem_cons_self
theorem len_row {r : List Int} {M : Mem} : fLen [row r] M = .ok (.int r.length) M := by
  unfold row
  rw [ev_len_l, List.length_map]
theorem len_tab {t : List (List Int)} {M : Mem} : fLen [tab t] M = .ok (.int t.length) M := by
  unfold tab
  rw [ev_len_l, List.length_map]
theorem isi_tab_l {t : List (List Int)} {M : Mem} : fIsi [tab t, .raw (.ty "list")] M = .ok (.bl true) M := isi_lst_list
theorem isi_row_l {t : List Int} {M : Mem} : fIsi [row t, .raw (.ty "list")] M = .ok (.bl true) M := isi_lst_list
theorem F_check_table {t : List (List Int)} {n : Nat} (h : OkT t n) (M : Mem) : F.check_table [tab t] M = .ok .non M := by
  refine clean_pure ?_ rfl
  obtain ⟨h1, h2, h3, h4, h5, h6⟩ := id h
  have e1 := @isi_tab_l
  have e2 := @len_tab
  have e3 := @isi_row_l
  have e4 := @ne_nil_nil
  have e5 := @tab_0 _ _ h
  have e6 := @len_row
  unfold b_check_table
  walk_at "ev"
  simp only [e1, e2]
  walk_at "ev"
  simp only [e2]
  walk_at "ev"
  rw [decide_eq_true (show (1 : Int) ≤ t.length by omega)]
  walk_at "ev"
  rw [decide_eq_true (show (t.length : Int) ≤ 8 by omega)]
  walk_at "ev"
  unfold tab
  walk_at "ev"
  rw [lcL_filter (g := row) (h := row) (k := fun _ => false) (fun z _ => ⟨_, rfl, fun M => ⟨by walk_at "ev"; simp only [e3]; walk_at "ev", by walk_at "ev"⟩⟩) [] (by simp; omega)]
  walk_at "ev"
  rw [show (List.filter (fun _ => false) t : List (List Int)) = [] by simp]
  walk_at "ev"
  simp only [e4]
  walk_at "ev"
  unfold enumA
  have hz : (t.map row).zipIdx.map (fun p => AV.tup [.int (p.2 : Nat), p.1]) = t.zipIdx.map fun p => AV.tup [.int (p.2 : Nat), row p.1] := by
    rw [List.zipIdx_map, List.map_map]
    rfl
  rw [hz]
  have hf := forL_st (γ := List Int × Nat) (τ := Option AV × Option AV) (t := .tp [.nm 2, .nm 1]) (g := fun p => AV.tup [.int (p.2 : Nat), row p.1])
    (b := aIfS (aOr (aNot (aTest (aChain fLe fLe (aC (.int 1)) (aCall fLen (aCons (aVar 1) aNil)) (aC (.int 8))))) (aNot (aTest (aFn 2 F.is_row (aCons (aVar 1) (aCons (aCall fLen (aCons (aBin fIx (aVar 0) (aC (.int 0))) aNil)) aNil)))))) aNever aSkip)
    (fun q => [some (tab t), q.1, q.2]) (fun _ => M) (fun q z => (some (row z.1), some (.int (z.2 : Nat)))) (l := t.zipIdx) (fun z hz q => by
      have hr : z.1 ∈ t := by
        have := List.mem_zipIdx hz
        rw [this.2.2]
        exact List.getElem_mem _
      have hlen := h5 z.1 hr
      refine ⟨[some (tab t), some (row z.1), some (.int (z.2 : Nat))], rfl, ?_⟩
      walk_at "ev"
      simp only [e6]
      walk_at "ev"
      rw [decide_eq_true (show (1 : Int) ≤ z.1.length by omega)]
      walk_at "ev"
      rw [decide_eq_true (show (z.1.length : Int) ≤ 8 by omega)]
      walk_at "ev"
      simp only [e5]
      walk_at "ev"
      simp only [e6, head_len h, ← hlen]
      walk_at "ev"
      rw [F_is_row z.1 (by omega)]
      walk_at "ev") (none, none)
  unfold tab at hf
  rw [hf]
  walk_at "ev"
theorem F_check_key (k : Int) (M : Mem) : F.check_key [.int k] M = .ok .non M := by
  refine clean_pure ?_ rfl
  have e := F_is_whole
  unfold b_check_key
  walk_at "evh"
/-! the search -/
def pl (p : Int × Int) : AV := .tup [.int p.1, .int p.2]
def Wg (f : Int → Int → Int) (m k : Int) : Nat → Int → Int → List (Int × Int) × (Int × Int)
  | 0, i, j => ([], (i, j))
  | n + 1, i, j => if i < m ∧ 0 ≤ j then (if f i j = k then ([(i, j)], (i, j)) else ((i, j) :: (if f i j < k then Wg f m k n (i + 1) j else Wg f m k n i (j - 1)).1, (if f i j < k then Wg f m k n (i + 1) j else Wg f m k n i (j - 1)).2)) else ([], (i, j))
def at2 (t : List (List Int)) (i j : Int) : Int := (t.getD i.toNat []).getD j.toNat 0
theorem ix_tab {t : List (List Int)} {i : Int} {M : Mem} (h0 : 0 ≤ i) (h : i < t.length) : fIx (tab t) (.int i) M = .ok (row (t.getD i.toNat [])) M := by
  refine ev_ix_l h0 ?_
  have hl : i.toNat < t.length := by omega
  rw [List.getElem?_map, List.getElem?_eq_getElem hl, List.getD_eq_getElem?_getD, List.getElem?_eq_getElem hl]
  rfl
theorem ix_row {r : List Int} {j : Int} {M : Mem} (h0 : 0 ≤ j) (h : j < r.length) : fIx (row r) (.int j) M = .ok (.int (r.getD j.toNat 0)) M := by
  refine ev_ix_l h0 ?_
  have hl : j.toNat < r.length := by omega
  rw [List.getElem?_map, List.getElem?_eq_getElem hl, List.getD_eq_getElem?_getD, List.getElem?_eq_getElem hl]
  rfl
theorem row_len {t : List (List Int)} {n : Nat} (h : OkT t n) {i : Int} (h0 : 0 ≤ i) (h1 : i < t.length) : (t.getD i.toNat []).length = n := by
  have hl : i.toNat < t.length := by omega
  rw [List.getD_eq_getElem?_getD, List.getElem?_eq_getElem hl]
  exact h.len _ (List.getElem_mem hl)
theorem meth_app {l : Nat} {xs ys : List AV} {M : Mem} {h : Mem → Res (List AV)} : Res.meth (.ok (.ptr M.length) (M ++ [.lst xs])) h fApp = (h (M ++ [.lst xs])).bind (fApp (.ptr M.length)) := meth_ptr (xs := xs) (by rw [List.getElem?_append_right (Nat.le_refl _), Nat.sub_self]; rfl)
theorem app_last {xs : List AV} {y : AV} {M : Mem} (h : xs.length < 1000) : fApp (.ptr M.length) [y] (M ++ [.lst xs]) = .ok .non (M ++ [.lst (xs ++ [y])]) := by
  rw [fApp_ok (xs := xs) (by rw [List.getElem?_append_right (Nat.le_refl _), Nat.sub_self]; rfl) h, List.set_append_right _ _ (Nat.le_refl _), Nat.sub_self]
  rfl
theorem Wg_len {f : Int → Int → Int} {m k : Int} : ∀ (n : Nat) (i j : Int), (Wg f m k n i j).1.length ≤ n
  | 0, i, j => Nat.le_refl 0
  | n + 1, i, j => by
    unfold Wg
    split
    · split
      · simp
      · simp only [List.length_cons]
        split
        · have := Wg_len (f := f) (m := m) (k := k) n (i + 1) j
          omega
        · have := Wg_len (f := f) (m := m) (k := k) n i (j - 1)
          omega
    · simp
def cWay : AT := (aAnd (aTest (aBin fLt (aVar 2) (aCall fLen (aCons (aVar 0) aNil)))) (aTest (aBin fGe (aVar 3) (aC (.int 0)))))
def bWay : AS := (aSeq (aSet 5 (aBin fIx (aBin fIx (aVar 0) (aVar 2)) (aVar 3)))
  (aSeq (aExpr (aMethL fApp (aVar 4) (aCons (aTup (aCons (aVar 2) (aCons (aVar 3) aNil))) aNil)))
  (aSeq (aIfS (aTest (aBin (fEqv false) (aVar 5) (aVar 1))) (aRet (aTup (aCons (aVar 4) (aCons (aTup (aCons (aVar 2) (aCons (aVar 3) aNil))) aNil)))) aSkip)
  (aAsg (.tp [(.nm 2), (.nm 3)]) (aIf (aTest (aBin fLt (aVar 5) (aVar 1))) (aTup (aCons (aBin fAdd (aVar 2) (aC (.int 1))) (aCons (aVar 3) aNil))) (aTup (aCons (aVar 2) (aCons (aBin fSub (aVar 3) (aC (.int 1))) aNil))))))))
def rWay : AS := (aRet (aTup (aCons (aVar 4) (aCons (aTup (aCons (aVar 2) (aCons (aVar 3) aNil))) aNil))))
theorem way_loop {t : List (List Int)} {n : Nat} (h : OkT t n) (k : Int) (M : Mem) : ∀ (fu : Nat) (i j : Int) (acc : List AV) (v : Option AV), 0 ≤ i → i ≤ t.length → -1 ≤ j → j < n → (t.length - i).toNat + (j + 1).toNat < fu → acc.length + fu < 900 →
    SRes.seq (aWhile cWay bWay (fu + 980) [some (tab t), some (.int k), some (.int i), some (.int j), some (.ptr M.length), v] (M ++ [.lst acc])) rWay = .rt (.tup [.ptr M.length, pl (Wg (at2 t) t.length k fu i j).2]) (M ++ [.lst (acc ++ (Wg (at2 t) t.length k fu i j).1.map pl)])
  | 0, i, j, acc, v, _, _, _, _, hf, _ => absurd hf (Nat.not_lt_zero _)
  | fu + 1, i, j, acc, v, h1, h2, h3, h4, hf, ha => by
    have e2 := @len_tab t
    rw [show fu + 1 + 980 = (fu + 980) + 1 by omega]
    by_cases hc : i < t.length ∧ 0 ≤ j
    · obtain ⟨c1, c2⟩ := hc
      have hcond : cWay [some (tab t), some (.int k), some (.int i), some (.int j), some (.ptr M.length), v] (M ++ [.lst acc]) = .ok true (M ++ [.lst acc]) := by
        unfold cWay
        walk_at "ev"
        simp only [e2]
        walk_at "ev"
        rw [decide_eq_true c1]
        walk_at "ev"
        rw [decide_eq_true c2]
      have hv : (at2 t) i j = (t.getD i.toNat []).getD j.toNat 0 := rfl
      have hb : bWay [some (tab t), some (.int k), some (.int i), some (.int j), some (.ptr M.length), v] (M ++ [.lst acc]) =
          (if at2 t i j = k then .rt (.tup [.ptr M.length, pl (i, j)]) (M ++ [.lst (acc ++ [pl (i, j)])]) else .nx [some (tab t), some (.int k), some (.int (if at2 t i j < k then i + 1 else i)), some (.int (if at2 t i j < k then j else j - 1)), some (.ptr M.length), some (.int (at2 t i j))] (M ++ [.lst (acc ++ [pl (i, j)])])) := by
        unfold bWay
        walk_at "ev"
        rw [ix_tab h1 c1]
        walk_at "ev"
        rw [ix_row c2 (by rw [row_len h h1 c1]; exact h4), ← hv]
        walk_at "ev"
        rw [meth_app (l := 0) (ys := [])]
        walk_at "ev"
        rw [app_last (by omega)]
        walk_at "ev"
        by_cases hk : at2 t i j = k
        · rw [decide_eq_true hk, if_pos hk]
          walk_at "ev"
          rfl
        · rw [decide_eq_false hk, if_neg hk]
          walk_at "ev"
          by_cases hlt : at2 t i j < k
          · rw [decide_eq_true hlt, if_pos hlt, if_pos hlt]
            walk_at "ev"
            rfl
          · rw [decide_eq_false hlt, if_neg hlt, if_neg hlt]
            walk_at "ev"
            rfl
      by_cases hk : at2 t i j = k
      · rw [if_pos hk] at hb
        rw [while_rt hcond hb, seq_rt]
        have hW : Wg (at2 t) t.length k (fu + 1) i j = ([(i, j)], (i, j)) := by
          unfold Wg
          rw [if_pos ⟨c1, c2⟩, if_pos hk]
        rw [hW]
        rfl
      · rw [if_neg hk] at hb
        rw [while_nx hcond hb]
        have ih := way_loop h k M fu (if at2 t i j < k then i + 1 else i) (if at2 t i j < k then j else j - 1) (acc ++ [pl (i, j)]) (some (.int (at2 t i j))) (by split <;> omega) (by split <;> omega) (by split <;> omega) (by split <;> omega) (by split <;> omega) (by rw [List.length_append, List.length_singleton]; omega)
        rw [ih]
        have hW : Wg (at2 t) t.length k (fu + 1) i j = ((i, j) :: (Wg (at2 t) t.length k fu (if at2 t i j < k then i + 1 else i) (if at2 t i j < k then j else j - 1)).1, (Wg (at2 t) t.length k fu (if at2 t i j < k then i + 1 else i) (if at2 t i j < k then j else j - 1)).2) := by
          conv => lhs; unfold Wg
          rw [if_pos ⟨c1, c2⟩, if_neg hk]
          by_cases hlt : at2 t i j < k
          · simp only [if_pos hlt]
          · simp only [if_neg hlt]
        rw [hW]
        simp only [List.map_cons, List.append_assoc, List.singleton_append]
    · have hcond : cWay [some (tab t), some (.int k), some (.int i), some (.int j), some (.ptr M.length), v] (M ++ [.lst acc]) = .ok false (M ++ [.lst acc]) := by
        unfold cWay
        walk_at "ev"
        simp only [e2]
        walk_at "ev"
        by_cases c1 : i < t.length
        · rw [decide_eq_true c1]
          walk_at "ev"
          rw [decide_eq_false fun z => hc ⟨c1, z⟩]
        · rw [decide_eq_false c1]
          walk_at "ev"
      rw [while_f hcond]
      unfold rWay
      walk_at "ev"
      have hW : Wg (at2 t) t.length k (fu + 1) i j = ([], (i, j)) := by
        unfold Wg
        rw [if_neg hc]
      rw [hW, List.map_nil, List.append_nil]
      rfl
def W (t : List (List Int)) (k : Int) : List (Int × Int) × (Int × Int) := Wg (at2 t) t.length k 20 0 ((t.headD []).length - 1)
def pth (t : List (List Int)) (k : Int) : List AV := (W t k).1.map pl
theorem W_len (t : List (List Int)) (k : Int) : (W t k).1.length ≤ 20 := Wg_len 20 _ _
theorem pth_len (t : List (List Int)) (k : Int) : (pth t k).length ≤ 20 := by
  unfold pth
  rw [List.length_map]
  exact W_len t k
theorem F_way {t : List (List Int)} {n : Nat} (h : OkT t n) (k : Int) (M : Mem) : F.way [tab t, .int k] M = .ok (.tup [.ptr M.length, pl (W t k).2]) (M ++ [.lst (pth t k)]) := by
  have hl := head_len h
  obtain ⟨h1, h2, h3, h4, h5, h6⟩ := id h
  refine clean_keep ?_ ?_
  · have e := way_loop h k M 20 0 ((t.headD []).length - 1) [] none (Int.le_refl 0) (by omega) (by omega) (by omega) (by omega) (by simp)
    unfold b_way
    walk_at "ev"
    rw [tab_0 h]
    walk_at "ev"
    rw [len_row]
    walk_at "ev"
    unfold cWay bWay rWay at e
    rw [show (1000 : Nat) = 20 + 980 from rfl, e]
    walk_at "ev"
    unfold pth W
    rfl
  · show (decide (M.length < M.length) && _) = false
    rw [decide_eq_false (Nat.lt_irrefl _)]
    rfl
theorem len_app {M : Mem} {c : MO} : (M ++ [c]).length = M.length + 1 := by simp
theorem tup_0 {x y : AV} {M : Mem} : fIx (.tup [x, y]) (.int 0) M = .ok x M := ev_ix_t (Int.le_refl 0) rfl
theorem tup_1 {x y : AV} {M : Mem} : fIx (.tup [x, y]) (.int 1) M = .ok y M := ev_ix_t (by decide) rfl
theorem F_path {t : List (List Int)} {n : Nat} (h : OkT t n) (k : Int) (M : Mem) : F.path [tab t, .int k] M = .ok (.ptr M.length) (M ++ [.lst (pth t k)]) := by
  refine clean_keep ?_ (decide_eq_false (Nat.lt_irrefl _))
  have e1 := F_check_table h
  have e2 := F_check_key
  have e3 := F_way h
  have e4 := @tup_0
  unfold b_path
  walk_at "evh"
theorem pl_cl {p : Int × Int} {m : Nat} : (pl p).cl m = true := rfl
theorem F_end {t : List (List Int)} {n : Nat} (h : OkT t n) (k : Int) (M : Mem) : F.end [tab t, .int k] M = .ok (pl (W t k).2) M := by
  refine clean_made (G := [.lst (pth t k)]) ?_ pl_cl
  have e1 := F_check_table h
  have e2 := F_check_key
  have e3 := F_way h
  have e4 := @tup_1
  unfold b_end
  walk_at "evh"
/-! the turned table -/
def colOf (t : List (List Int)) (j : Nat) : List Int := t.map fun r => r.getD j 0
def turn (t : List (List Int)) : List (List Int) := (List.range (t.headD []).length).map (colOf t)
theorem tab_cl {t : List (List Int)} {m : Nat} : (tab t).cl m = true := by
  have h1 : ∀ r : List Int, AV.cls m (r.map .int) = true := fun r => by
    induction r with
    | nil => rfl
    | cons v r ih => exact ih
  have h2 : ∀ t : List (List Int), AV.cls m (t.map row) = true := fun t => by
    induction t with
    | nil => rfl
    | cons r t ih =>
      show (AV.cls m (r.map .int) && AV.cls m (t.map row)) = true
      rw [h1 r, ih]
      rfl
  exact h2 t
theorem F_turned {t : List (List Int)} {n : Nat} (h : OkT t n) (M : Mem) : F.turned [tab t] M = .ok (tab (turn t)) M := by
  have hl := head_len h
  obtain ⟨h1, h2, h3, h4, h5, h6⟩ := id h
  refine clean_pure ?_ tab_cl
  unfold b_turned
  walk_at "ev"
  rw [tab_0 h]
  walk_at "ev"
  rw [len_row, hl]
  walk_at "ev"
  rw [itR1_nat (by omega)]
  walk_at "ev"
  unfold rngA
  have hl2 : (List.range n).length ≤ 8 := by rw [List.length_range]; exact h4
  rw [lcL_map (g := fun i : Nat => AV.int (0 + (i : Int))) (h := fun i => row (colOf t i)) (fun z hz => ⟨_, rfl, fun M => by
    have hz' : z < n := List.mem_range.mp hz
    walk_at "ev"
    unfold tab
    walk_at "ev"
    rw [lcL_map (g := row) (h := fun r => AV.int (r.getD z 0)) (fun r hr => ⟨_, rfl, fun M => by
      walk_at "ev"
      rw [ix_row (by omega) (by rw [h5 r hr]; omega)]
      rw [show (0 + (z : Int)).toNat = z by omega]⟩) [] (by simp; omega)]
    walk_at "ev"
    unfold row colOf
    rw [List.map_map]
    rfl⟩) [] (by rw [List.length_nil]; omega)]
  walk_at "ev"
  unfold tab turn
  rw [hl, List.map_map]
  rfl
theorem turn_ok {t : List (List Int)} {n : Nat} (h : OkT t n) : OkT (turn t) t.length := by
  have hl := head_len h
  obtain ⟨h1, h2, h3, h4, h5, h6⟩ := id h
  have ht : (turn t).length = n := by rw [turn, List.length_map, List.length_range, hl]
  refine ⟨by omega, by omega, h1, h2, fun r hr => ?_, fun r hr v hv => ?_⟩
  · obtain ⟨j, _, rfl⟩ := List.mem_map.mp hr
    simp [colOf]
  · obtain ⟨j, hj, rfl⟩ := List.mem_map.mp hr
    obtain ⟨q, hq, rfl⟩ := List.mem_map.mp hv
    have hj' : j < q.length := by
      rw [h5 q hq, ← hl]
      exact List.mem_range.mp hj
    rw [List.getD_eq_getElem?_getD, List.getElem?_eq_getElem hj']
    exact h6 q hq _ (List.getElem_mem _)
def swp (p : Int × Int) : Int × Int := (p.2, p.1)
theorem frz_last {xs : List AV} {M : Mem} : frzV (.ptr M.length) (M ++ [.lst xs]) = .ok (.lst xs) (M ++ [.dead]) := by
  rw [frzV_ok (xs := xs) (by rw [List.getElem?_append_right (Nat.le_refl _), Nat.sub_self]; rfl), List.set_append_right _ _ (Nat.le_refl _), Nat.sub_self]
  rfl
def pthU (t : List (List Int)) (k : Int) : List AV := (W (turn t) k).1.map fun p => pl (swp p)
theorem F_path_below {t : List (List Int)} {n : Nat} (h : OkT t n) (k : Int) (M : Mem) : F.path_from_below [tab t, .int k] M = .ok (.ptr (M.length + 1)) (M ++ [.dead, .lst (pthU t k)]) := by
  refine clean_keep ?_ (decide_eq_false (by omega))
  have e1 := F_check_table h
  have e2 := F_check_key
  have e3 := F_turned h
  have e4 := F_way (turn_ok h) k M
  have e5 := @tup_0
  have e6 := @frz_last
  unfold b_path_from_below
  walk_at "evh"
  unfold pth
  rw [lcL_map (g := pl) (h := fun p => pl (swp p)) (fun p _ => ⟨_, rfl, fun M => by walk_at "ev"; rfl⟩) [] (by rw [List.length_nil]; have := W_len (turn t) k; omega)]
  walk_at "ev"
  rw [List.length_append, List.append_assoc]
  rfl
theorem F_end_below {t : List (List Int)} {n : Nat} (h : OkT t n) (k : Int) (M : Mem) : F.end_from_below [tab t, .int k] M = .ok (pl (swp (W (turn t) k).2)) M := by
  refine clean_made (G := [.lst (pth (turn t) k)]) ?_ pl_cl
  have e1 := F_check_table h
  have e2 := F_check_key
  have e3 := F_turned h
  have e4 := F_way (turn_ok h) k M
  have e5 := @tup_1
  unfold b_end_from_below
  walk_at "evh"
  unfold pl
  walk_at "ev"
  rfl
theorem at2_turn {t : List (List Int)} {n : Nat} (h : OkT t n) {i j : Int} (h0 : 0 ≤ i) (h1 : i < t.length) (h2 : 0 ≤ j) (h3 : j < n) : at2 (turn t) j i = at2 t i j := by
  have hl := head_len h
  have hi : i.toNat < t.length := by omega
  have hj : j.toNat < n := by omega
  unfold at2 turn colOf
  simp only [List.getD_eq_getElem?_getD]
  rw [List.getElem?_map, hl, List.getElem?_range hj]
  show (List.map _ t)[i.toNat]?.getD 0 = _
  rw [List.getElem?_map, List.getElem?_eq_getElem hi]
  rfl
/-! the law's own searches -/
theorem Wg_f {f : Int → Int → Int} {m k : Int} {fu : Nat} {i j : Int} (h : i < m ∧ 0 ≤ j) (hk : f i j = k) : Wg f m k (fu + 1) i j = ([(i, j)], (i, j)) := by
  unfold Wg
  rw [if_pos h, if_pos hk]
theorem Wg_o {f : Int → Int → Int} {m k : Int} {fu : Nat} {i j : Int} (h : ¬ (i < m ∧ 0 ≤ j)) : Wg f m k (fu + 1) i j = ([], (i, j)) := by
  unfold Wg
  rw [if_neg h]
theorem Wg_s {f : Int → Int → Int} {m k : Int} {fu : Nat} {i j : Int} (h : i < m ∧ 0 ≤ j) (hk : ¬ f i j = k) : Wg f m k (fu + 1) i j = ((i, j) :: (Wg f m k fu (if f i j < k then i + 1 else i) (if f i j < k then j else j - 1)).1, (Wg f m k fu (if f i j < k then i + 1 else i) (if f i j < k then j else j - 1)).2) := by
  conv => lhs; unfold Wg
  rw [if_pos h, if_neg hk]
  by_cases hlt : f i j < k
  · simp only [if_pos hlt]
  · simp only [if_neg hlt]
def rLaw : AS := (aRet (aTup (aCons (aFrz (aVar 2)) (aCons (aTup (aCons (aVar 3) (aCons (aVar 4) aNil))) aNil))))
def cLaw : AT := (aAnd (aTest (aBin fLt (aVar 3) (aCall fLen (aCons (aVar 0) aNil)))) (aTest (aBin fGe (aVar 4) (aC (.int 0)))))
def bLaw : AS := (aSeq (aExpr (aMethL fApp (aVar 2) (aCons (aTup (aCons (aVar 3) (aCons (aVar 4) aNil))) aNil)))
  (aSeq (aIfS (aTest (aBin (fEqv false) (aBin fIx (aBin fIx (aVar 0) (aVar 3)) (aVar 4)) (aVar 1))) (aRet (aTup (aCons (aFrz (aVar 2)) (aCons (aTup (aCons (aVar 3) (aCons (aVar 4) aNil))) aNil)))) aSkip)
  (aIfS (aTest (aBin fLt (aBin fIx (aBin fIx (aVar 0) (aVar 3)) (aVar 4)) (aVar 1))) (aSet 3 (aBin fAdd (aVar 3) (aC (.int 1)))) (aSet 4 (aBin fSub (aVar 4) (aC (.int 1)))))))
theorem law_loop {t : List (List Int)} {n : Nat} (h : OkT t n) (k : Int) (M : Mem) : ∀ (fu : Nat) (i j : Int) (acc : List AV), 0 ≤ i → i ≤ t.length → -1 ≤ j → j < n → (t.length - i).toNat + (j + 1).toNat < fu → acc.length + fu < 900 →
    SRes.seq (aWhile cLaw bLaw (fu + 980) [some (tab t), some (.int k), some (.ptr M.length), some (.int i), some (.int j)] (M ++ [.lst acc])) rLaw = .rt (.tup [.lst (acc ++ (Wg (at2 t) t.length k fu i j).1.map pl), pl (Wg (at2 t) t.length k fu i j).2]) (M ++ [.dead])
  | 0, i, j, acc, _, _, _, _, hf, _ => absurd hf (Nat.not_lt_zero _)
  | fu + 1, i, j, acc, h1, h2, h3, h4, hf, ha => by
    have e2 := @len_tab t
    have e6 := @frz_last
    rw [show fu + 1 + 980 = (fu + 980) + 1 by omega]
    by_cases hc : i < t.length ∧ 0 ≤ j
    · obtain ⟨c1, c2⟩ := hc
      have hcond : cLaw [some (tab t), some (.int k), some (.ptr M.length), some (.int i), some (.int j)] (M ++ [.lst acc]) = .ok true (M ++ [.lst acc]) := by
        unfold cLaw
        walk_at "ev"
        simp only [e2]
        walk_at "ev"
        rw [decide_eq_true c1]
        walk_at "ev"
        rw [decide_eq_true c2]
      have hv : (at2 t) i j = (t.getD i.toNat []).getD j.toNat 0 := rfl
      have hi : ∀ M, fIx (tab t) (.int i) M = .ok (row (t.getD i.toNat [])) M := fun M => ix_tab h1 c1
      have hj : ∀ M, fIx (row (t.getD i.toNat [])) (.int j) M = .ok (.int (at2 t i j)) M := fun M => by rw [hv]; exact ix_row c2 (by rw [row_len h h1 c1]; exact h4)
      have hb : bLaw [some (tab t), some (.int k), some (.ptr M.length), some (.int i), some (.int j)] (M ++ [.lst acc]) =
          (if at2 t i j = k then .rt (.tup [.lst (acc ++ [pl (i, j)]), pl (i, j)]) (M ++ [.dead]) else .nx [some (tab t), some (.int k), some (.ptr M.length), some (.int (if at2 t i j < k then i + 1 else i)), some (.int (if at2 t i j < k then j else j - 1))] (M ++ [.lst (acc ++ [pl (i, j)])])) := by
        unfold bLaw
        walk_at "ev"
        rw [meth_app (l := 0) (ys := [])]
        walk_at "ev"
        rw [app_last (by omega)]
        walk_at "ev"
        simp only [hi]
        walk_at "ev"
        simp only [hj]
        walk_at "ev"
        by_cases hk : at2 t i j = k
        · rw [decide_eq_true hk, if_pos hk]
          walk_at "ev"
          simp only [e6]
          walk_at "ev"
          rfl
        · rw [decide_eq_false hk, if_neg hk]
          walk_at "ev"
          simp only [hi]
          walk_at "ev"
          simp only [hj]
          walk_at "ev"
          by_cases hlt : at2 t i j < k
          · rw [decide_eq_true hlt, if_pos hlt, if_pos hlt]
            walk_at "ev"
            rfl
          · rw [decide_eq_false hlt, if_neg hlt, if_neg hlt]
            walk_at "ev"
            rfl
      by_cases hk : at2 t i j = k
      · rw [if_pos hk] at hb
        rw [while_rt hcond hb, seq_rt, Wg_f ⟨c1, c2⟩ hk]
        rfl
      · rw [if_neg hk] at hb
        rw [while_nx hcond hb]
        have ih := law_loop h k M fu (if at2 t i j < k then i + 1 else i) (if at2 t i j < k then j else j - 1) (acc ++ [pl (i, j)]) (by split <;> omega) (by split <;> omega) (by split <;> omega) (by split <;> omega) (by split <;> omega) (by rw [List.length_append, List.length_singleton]; omega)
        rw [ih, Wg_s ⟨c1, c2⟩ hk]
        simp only [List.map_cons, List.append_assoc, List.singleton_append]
    · have hcond : cLaw [some (tab t), some (.int k), some (.ptr M.length), some (.int i), some (.int j)] (M ++ [.lst acc]) = .ok false (M ++ [.lst acc]) := by
        unfold cLaw
        walk_at "ev"
        simp only [e2]
        walk_at "ev"
        by_cases c1 : i < t.length
        · rw [decide_eq_true c1]
          walk_at "ev"
          rw [decide_eq_false fun z => hc ⟨c1, z⟩]
        · rw [decide_eq_false c1]
          walk_at "ev"
      rw [while_f hcond]
      unfold rLaw
      walk_at "ev"
      simp only [e6]
      walk_at "ev"
      rw [Wg_o hc, List.map_nil, List.append_nil]
      rfl
theorem pths_cl {m : Nat} {l : List (Int × Int)} {f : Int × Int → Int × Int} : AV.cls m (l.map fun p => pl (f p)) = true := by
  induction l with
  | nil => rfl
  | cons p l ih => exact ih
theorem pth_cl {m : Nat} {t : List (List Int)} {k : Int} : AV.cls m (pth t k) = true := pths_cl (f := fun p => p)
theorem F_law_way {t : List (List Int)} {n : Nat} (h : OkT t n) (k : Int) (M : Mem) : F._law_way [tab t, .int k] M = .ok (.tup [.lst (pth t k), pl (W t k).2]) M := by
  have hl := head_len h
  obtain ⟨h1, h2, h3, h4, h5, h6⟩ := id h
  refine clean_made (G := [.dead]) ?_ ?_
  · have e := law_loop h k M 20 0 ((t.headD []).length - 1) [] (Int.le_refl 0) (by omega) (by omega) (by omega) (by omega) (by simp)
    unfold b__law_way
    walk_at "ev"
    rw [tab_0 h]
    walk_at "ev"
    rw [len_row]
    walk_at "ev"
    unfold cLaw bLaw rLaw at e
    rw [show (1000 : Nat) = 20 + 980 from rfl, e]
    walk_at "ev"
    unfold pth W
    rfl
  · show (AV.cls _ (pth t k) && _) = true
    rw [pth_cl]
    rfl
def cUp : AT := (aAnd (aTest (aBin fGe (aVar 3) (aC (.int 0)))) (aTest (aBin fLt (aVar 4) (aCall fLen (aCons (aBin fIx (aVar 0) (aC (.int 0))) aNil)))))
def bUp : AS := (aSeq (aExpr (aMethL fApp (aVar 2) (aCons (aTup (aCons (aVar 3) (aCons (aVar 4) aNil))) aNil)))
  (aSeq (aIfS (aTest (aBin (fEqv false) (aBin fIx (aBin fIx (aVar 0) (aVar 3)) (aVar 4)) (aVar 1))) (aRet (aTup (aCons (aFrz (aVar 2)) (aCons (aTup (aCons (aVar 3) (aCons (aVar 4) aNil))) aNil)))) aSkip)
  (aIfS (aTest (aBin fLt (aBin fIx (aBin fIx (aVar 0) (aVar 3)) (aVar 4)) (aVar 1))) (aSet 4 (aBin fAdd (aVar 4) (aC (.int 1)))) (aSet 3 (aBin fSub (aVar 3) (aC (.int 1)))))))
theorem up_loop {t : List (List Int)} {n : Nat} (h : OkT t n) (k : Int) (M : Mem) : ∀ (fu : Nat) (i j : Int) (acc : List AV), 0 ≤ i → i ≤ n → -1 ≤ j → j < t.length → (n - i).toNat + (j + 1).toNat < fu → acc.length + fu < 900 →
    SRes.seq (aWhile cUp bUp (fu + 980) [some (tab t), some (.int k), some (.ptr M.length), some (.int j), some (.int i)] (M ++ [.lst acc])) rLaw = .rt (.tup [.lst (acc ++ (Wg (at2 (turn t)) n k fu i j).1.map fun p => pl (swp p)), pl (swp (Wg (at2 (turn t)) n k fu i j).2)]) (M ++ [.dead])
  | 0, i, j, acc, _, _, _, _, hf, _ => absurd hf (Nat.not_lt_zero _)
  | fu + 1, i, j, acc, h1, h2, h3, h4, hf, ha => by
    have e2 : ∀ M, fLen [row (t.headD [])] M = .ok (.int n) M := fun M => by rw [len_row, head_len h]
    have e5 := @tab_0 _ _ h
    have e6 := @frz_last
    rw [show fu + 1 + 980 = (fu + 980) + 1 by omega]
    by_cases hc : i < n ∧ 0 ≤ j
    · obtain ⟨c1, c2⟩ := hc
      have hcond : cUp [some (tab t), some (.int k), some (.ptr M.length), some (.int j), some (.int i)] (M ++ [.lst acc]) = .ok true (M ++ [.lst acc]) := by
        unfold cUp
        walk_at "ev"
        rw [decide_eq_true c2]
        walk_at "ev"
        simp only [e5]
        walk_at "ev"
        simp only [e2]
        walk_at "ev"
        rw [decide_eq_true c1]
      have hi : ∀ M, fIx (tab t) (.int j) M = .ok (row (t.getD j.toNat [])) M := fun M => ix_tab c2 h4
      have hj : ∀ M, fIx (row (t.getD j.toNat [])) (.int i) M = .ok (.int (at2 (turn t) i j)) M := fun M => by rw [at2_turn h c2 h4 h1 c1]; exact ix_row h1 (by rw [row_len h c2 h4]; exact c1)
      have hb : bUp [some (tab t), some (.int k), some (.ptr M.length), some (.int j), some (.int i)] (M ++ [.lst acc]) =
          (if at2 (turn t) i j = k then .rt (.tup [.lst (acc ++ [pl (swp (i, j))]), pl (swp (i, j))]) (M ++ [.dead]) else .nx [some (tab t), some (.int k), some (.ptr M.length), some (.int (if at2 (turn t) i j < k then j else j - 1)), some (.int (if at2 (turn t) i j < k then i + 1 else i))] (M ++ [.lst (acc ++ [pl (swp (i, j))])])) := by
        unfold bUp
        walk_at "ev"
        rw [meth_app (l := 0) (ys := [])]
        walk_at "ev"
        rw [app_last (by omega)]
        walk_at "ev"
        simp only [hi]
        walk_at "ev"
        simp only [hj]
        walk_at "ev"
        by_cases hk : at2 (turn t) i j = k
        · rw [decide_eq_true hk, if_pos hk]
          walk_at "ev"
          simp only [e6]
          walk_at "ev"
          rfl
        · rw [decide_eq_false hk, if_neg hk]
          walk_at "ev"
          simp only [hi]
          walk_at "ev"
          simp only [hj]
          walk_at "ev"
          by_cases hlt : at2 (turn t) i j < k
          · rw [decide_eq_true hlt, if_pos hlt, if_pos hlt]
            walk_at "ev"
            rfl
          · rw [decide_eq_false hlt, if_neg hlt, if_neg hlt]
            walk_at "ev"
            rfl
      by_cases hk : at2 (turn t) i j = k
      · rw [if_pos hk] at hb
        rw [while_rt hcond hb, seq_rt, Wg_f ⟨c1, c2⟩ hk]
        rfl
      · rw [if_neg hk] at hb
        rw [while_nx hcond hb]
        have ih := up_loop h k M fu (if at2 (turn t) i j < k then i + 1 else i) (if at2 (turn t) i j < k then j else j - 1) (acc ++ [pl (swp (i, j))]) (by split <;> omega) (by split <;> omega) (by split <;> omega) (by split <;> omega) (by split <;> omega) (by rw [List.length_append, List.length_singleton]; omega)
        rw [ih, Wg_s ⟨c1, c2⟩ hk]
        simp only [List.map_cons, List.append_assoc, List.singleton_append]
    · have hcond : cUp [some (tab t), some (.int k), some (.ptr M.length), some (.int j), some (.int i)] (M ++ [.lst acc]) = .ok false (M ++ [.lst acc]) := by
        unfold cUp
        walk_at "ev"
        by_cases c1 : 0 ≤ j
        · rw [decide_eq_true c1]
          walk_at "ev"
          simp only [e5]
          walk_at "ev"
          simp only [e2]
          walk_at "ev"
          rw [decide_eq_false fun z => hc ⟨z, c1⟩]
        · rw [decide_eq_false c1]
          walk_at "ev"
      rw [while_f hcond]
      unfold rLaw
      walk_at "ev"
      simp only [e6]
      walk_at "ev"
      rw [Wg_o hc, List.map_nil, List.append_nil]
      rfl
theorem turn_len {t : List (List Int)} {n : Nat} (h : OkT t n) : (turn t).length = n := by rw [turn, List.length_map, List.length_range, head_len h]
theorem F_law_way_up {t : List (List Int)} {n : Nat} (h : OkT t n) (k : Int) (M : Mem) : F._law_way_up [tab t, .int k] M = .ok (.tup [.lst (pthU t k), pl (swp (W (turn t) k).2)]) M := by
  have hl := head_len h
  have hl2 := head_len (turn_ok h)
  have hl3 := turn_len h
  obtain ⟨h1, h2, h3, h4, h5, h6⟩ := id h
  refine clean_made (G := [.dead]) ?_ ?_
  · have e := up_loop h k M 20 0 ((t.length : Int) - 1) [] (Int.le_refl 0) (by omega) (by omega) (by omega) (by omega) (by simp)
    unfold b__law_way_up
    walk_at "ev"
    rw [len_tab]
    walk_at "ev"
    unfold cUp bUp rLaw at e
    rw [show (1000 : Nat) = 20 + 980 from rfl, e]
    walk_at "ev"
    unfold pthU W
    rw [hl2, hl3]
  · show (AV.cls _ (pthU t k) && _) = true
    unfold pthU
    rw [pths_cl]
    rfl
end
end K01
namespace K01
open PySem PySem.Spec L2 Yk
noncomputable section
local macro_rules | `(tactic| walk_at "ev") => `(tactic| simp only [runF, outF_nx, outF_rt, outF_exc, isi_int_int, isi_int_bool, isi_int_list, isi_int_tuple, isi_bl_int, isi_bl_bool, isi_lst_list, isi_lst_int, isi_tup_tuple, ev_bin, ev_two, ev_b, ev_un, ev_var, ev_c, ev_test, ev_asBl, sel_t, sel_f, ev_and, ev_or, ev_not, ev_if, selV_t, selV_f, ev_andV, ev_orV, ev_notV, notV_ok, ev_chain, chain_ok, ch2_ok, ch3_ok, ev_nil, ev_cons, cons_ok, push_ok, ev_tup, ev_lst, ev_new, mkTup2, mkLst0, mkNew0, mkTup_ok, mkLst_ok, ev_frz, ev_call, ev_fn, fnV1, fnV2, fnV3, ev_fnK, fnK2_10, fnK1, ev_meth, ev_seq, seq_nx, seq_rt, seq_bk, seq_ct, ev_skip, ev_set, st_ok, ev_asg, asg2, ev_par, par2, par3, ev_expr, ex_ok, ev_ret, ret_ok, ev_ifS, ite_t, ite_f, ev_for, it_ok, ev_itL, itL_ok, ev_itR1, ev_itR2, ev_itE, itE_ok, ev_itZ, itZ_ok, ev_lc, ev_lcN, lc_ok, lcV_ok, lcVN_ok, wipeA, ev_add, ev_sub, ev_lt, ev_le, ev_gt, ev_ge, ev_neg, ev_eqI, ev_eqS, ev_int, ev_int_b, ev_min2, ev_len_l, ev_len_t, ev_noP, ev_part, part_ok, ev_slice, sl_ok, sl2_ok, sl3_lst, List.getElem?_cons_zero, List.getElem?_cons_succ, List.set_cons_zero, List.set_cons_succ, List.map_cons, List.map_nil, List.length_cons, List.length_nil, List.replicate_succ, List.replicate_zero, List.cons_append, List.nil_append, Nat.reduceAdd, Nat.reduceSub, Nat.reduceLeDiff, if_true, if_false, Bool.false_eq_true, reduceIte, Bool.not_true, Bool.not_false, decide_true, decide_false])
local macro_rules | `(tactic| walk_at "evh") => `(tactic| simp only [runF, outF_nx, outF_rt, outF_exc, isi_int_int, isi_int_bool, isi_int_list, isi_int_tuple, isi_bl_int, isi_bl_bool, isi_lst_list, isi_lst_int, isi_tup_tuple, ev_bin, ev_two, ev_b, ev_un, ev_var, ev_c, ev_test, ev_asBl, sel_t, sel_f, ev_and, ev_or, ev_not, ev_if, selV_t, selV_f, ev_andV, ev_orV, ev_notV, notV_ok, ev_chain, chain_ok, ch2_ok, ch3_ok, ev_nil, ev_cons, cons_ok, push_ok, ev_tup, ev_lst, ev_new, mkTup2, mkLst0, mkNew0, mkTup_ok, mkLst_ok, ev_frz, ev_call, ev_fn, fnV1, fnV2, fnV3, ev_fnK, fnK2_10, fnK1, ev_meth, ev_seq, seq_nx, seq_rt, seq_bk, seq_ct, ev_skip, ev_set, st_ok, ev_asg, asg2, ev_par, par2, par3, ev_expr, ex_ok, ev_ret, ret_ok, ev_ifS, ite_t, ite_f, ev_for, it_ok, ev_itL, itL_ok, ev_itR1, ev_itR2, ev_itE, itE_ok, ev_itZ, itZ_ok, ev_lc, ev_lcN, lc_ok, lcV_ok, lcVN_ok, wipeA, ev_add, ev_sub, ev_lt, ev_le, ev_gt, ev_ge, ev_neg, ev_eqI, ev_eqS, ev_int, ev_int_b, ev_min2, ev_len_l, ev_len_t, ev_noP, ev_part, part_ok, ev_slice, sl_ok, sl2_ok, sl3_lst, List.getElem?_cons_zero, List.getElem?_cons_succ, List.set_cons_zero, List.set_cons_succ, List.map_cons, List.map_nil, List.length_cons, List.length_nil, List.replicate_succ, List.replicate_zero, List.cons_append, List.nil_append, Nat.reduceAdd, Nat.reduceSub, Nat.reduceLeDiff, if_true, if_false, Bool.false_eq_true, reduceIte, Bool.not_true, Bool.not_false, decide_true, decide_false, *])
/-! the keys that the law asks for -/
theorem tab_sum {t : List (List Int)} (h : t.flatten.length ≤ 100000) {M : Mem} : fSumL [tab t, .lst []] M = .ok (row t.flatten) M := by
  have e := ev_sumL (M := M) (zs := t.map fun r => r.map AV.int) (by rw [← List.map_flatten, List.length_map]; exact h)
  rw [List.map_map] at e
  unfold tab row
  rw [List.map_flatten]
  exact e
theorem flat_len {t : List (List Int)} {n : Nat} (h : ∀ r ∈ t, r.length = n) : t.flatten.length = t.length * n := by
  induction t with
  | nil => simp
  | cons r t ih =>
    rw [List.flatten_cons, List.length_append, List.length_cons, Nat.succ_mul, ih fun q hq => h q (List.mem_cons_of_mem _ hq), h r List.mem_cons_self]
    omega
theorem row_set {ns : List Int} (h : ns.length ≤ 1000) {M : Mem} : fSortSet [row ns] M = .ok (row (sortI (dedupS ns))) M := ev_sortSet h
theorem row_add {a b : List Int} (h : a.length + b.length ≤ 1000) {M : Mem} : fAdd (row a) (row b) M = .ok (row (a ++ b)) M := by
  unfold row
  rw [List.map_append]
  exact if_pos (by rw [List.length_map, List.length_map]; unfold lim; omega)
theorem zip_ints : ∀ a b : List Int, List.zipWith (fun y z => AV.tup [y, z]) (a.map AV.int) (b.map AV.int) = (a.zip b).map fun p => AV.tup [.int p.1, .int p.2]
  | [], _ => by simp
  | _ :: _, [] => by simp
  | x :: a, y :: b => by
    rw [List.map_cons, List.map_cons, List.zipWith_cons_cons, zip_ints a b, List.zip_cons_cons, List.map_cons]
theorem cut_1 {α : Type} (xs : List α) (hz : 1 ≤ xs.length) : cutA xs (some 1) none = xs.drop 1 := by
  unfold cutA
  show List.take (xs.length - min 1 xs.length) (xs.drop (min 1 xs.length)) = _
  rw [Nat.min_eq_left hz, List.take_of_length_le (by rw [List.length_drop]; exact Nat.le_refl _)]
theorem itL_row {r : List Int} {M : Mem} : itL (row r) M = .ok (r.map .int) M := rfl
theorem ix_last {r : List Int} {M : Mem} (h : 1 ≤ r.length) : fIx (row r) (.int (-1)) M = .ok (.int (r.getD (r.length - 1) 0)) M := by
  unfold row fIx itemsOf
  have hl : r.length - 1 < r.length := by omega
  have e : atI (r.map AV.int) (-1) = some (AV.int (r.getD (r.length - 1) 0)) := by
    unfold atI ixN
    rw [if_neg (by decide), List.length_map, if_pos (by omega)]
    show (r.map AV.int)[(-1 + (r.length : Int)).toNat]? = _
    rw [show (-1 + (r.length : Int)).toNat = r.length - 1 by omega, List.getElem?_map, List.getElem?_eq_getElem hl, List.getD_eq_getElem?_getD, List.getElem?_eq_getElem hl]
    rfl
  simp only [e]
def mids (ks : List Int) : List Int := (ks.map fun v => [v - 1, v, v + 1]).flatten ++ (ks.zip (ks.drop 1)).map fun p => (p.1 + p.2) / 2
def allKs (ks : List Int) : List Int := mids ks ++ [ks.getD 0 0 - 10 ^ 19, ks.getD (ks.length - 1) 0 + 10 ^ 19]
theorem mids_len (ks : List Int) : ((ks.map fun v => [v - 1, v, v + 1]).flatten).length = 3 * ks.length := by
  induction ks with
  | nil => rfl
  | cons k ks ih =>
    rw [List.map_cons, List.flatten_cons, List.length_append, ih]
    simp
    omega
theorem row_cl {r : List Int} {m : Nat} : (row r).cl m = true := by
  have h1 : ∀ r : List Int, AV.cls m (r.map .int) = true := fun r => by
    induction r with
    | nil => rfl
    | cons v r ih => exact ih
  exact h1 r
theorem F_law_keys {t : List (List Int)} {n : Nat} (h : OkT t n) (M : Mem) : F._law_keys [tab t] M = .ok (row (sortI (dedupS (allKs (sortI (dedupS t.flatten)))))) M := by
  have hf := flat_len h.len
  have h64 : t.length * n ≤ 8 * 8 := Nat.mul_le_mul h.r8 h.c8
  have hpos : 1 * 1 ≤ t.length * n := Nat.mul_le_mul h.r1 h.c1
  have hd := dedup_len t.flatten
  have hs := sortI_len (dedupS t.flatten)
  have hne : 1 ≤ (sortI (dedupS t.flatten)).length := by
    cases e : sortI (dedupS t.flatten) with
    | cons x xs => exact Nat.succ_le_succ (Nat.zero_le _)
    | nil =>
      cases e2 : t.flatten with
      | nil => rw [e2] at hf; simp at hf; omega
      | cons v vs =>
        have : v ∈ sortI (dedupS t.flatten) := by rw [(sortI_perm _).mem_iff, mem_dedup, e2]; exact List.mem_cons_self
        rw [e] at this
        cases this
  refine clean_pure ?_ row_cl
  unfold b__law_keys
  walk_at "ev"
  rw [tab_sum (by omega)]
  walk_at "ev"
  rw [row_set (by omega)]
  walk_at "ev"
  generalize sortI (dedupS t.flatten) = ks at hs hne ⊢
  rw [itL_row]
  walk_at "ev"
  have z3 := mids_len ks
  have zz : (ks.zip (ks.drop 1)).length ≤ ks.length := by rw [List.length_zip]; omega
  rw [lcL_map (g := AV.int) (h := fun v => row [v - 1, v, v + 1]) (fun z _ => ⟨_, rfl, fun M => by walk_at "ev"; rfl⟩) [] (by rw [List.length_nil]; omega)]
  walk_at "ev"
  have e1 := tab_sum (t := ks.map fun v => [v - 1, v, v + 1]) (M := M) (by omega)
  unfold tab at e1
  rw [List.map_map] at e1
  have e2 : (fun v : Int => row [v - 1, v, v + 1]) = row ∘ fun v => [v - 1, v, v + 1] := rfl
  rw [e2, e1]
  walk_at "ev"
  have e3 : Res.sl3 (.ok none M) (row ks) (some 1) = .ok (row (ks.drop 1)) M := by
    unfold row
    rw [sl3_lst, cut_1 _ (by rw [List.length_map]; exact hne), ← List.map_drop]
  rw [e3]
  walk_at "ev"
  unfold row
  walk_at "ev"
  rw [zip_ints]
  rw [lcL_map (g := fun p : Int × Int => AV.tup [.int p.1, .int p.2]) (h := fun p => AV.int ((p.1 + p.2) / 2)) (fun z _ => ⟨_, rfl, fun M => by walk_at "ev"; rw [ev_div (by decide) (by decide)]⟩) [] (by rw [List.length_nil]; omega)]
  walk_at "ev"
  have e4 : (ks.zip (ks.drop 1)).map (fun p => AV.int ((p.1 + p.2) / 2)) = ((ks.zip (ks.drop 1)).map fun p => (p.1 + p.2) / 2).map AV.int := by rw [List.map_map]; rfl
  rw [e4]
  have e5 := row_add (a := (ks.map fun v => [v - 1, v, v + 1]).flatten) (b := (ks.zip (ks.drop 1)).map fun p => (p.1 + p.2) / 2) (M := M) (by rw [List.length_map]; omega)
  unfold row at e5
  rw [e5]
  walk_at "ev"
  have e6 : fIx (.lst (ks.map .int)) (.int 0) M = .ok (.int (ks.getD 0 0)) M := ix_row (Int.le_refl 0) (by omega)
  have e7 : fIx (.lst (ks.map .int)) (.int (-1)) M = .ok (.int (ks.getD (ks.length - 1) 0)) M := ix_last hne
  have e8 : fPow (.int 10) (.int 19) M = .ok (.int (10 ^ 19)) M := ev_pow (by decide) (by decide) (by decide)
  simp only [e6, e7, e8]
  walk_at "ev"
  simp only [e8]
  walk_at "ev"
  simp only [e7]
  walk_at "ev"
  simp only [e8]
  walk_at "ev"
  have e9 := row_add (a := mids ks) (b := [ks.getD 0 0 - 10 ^ 19, ks.getD (ks.length - 1) 0 + 10 ^ 19]) (M := M) (by unfold mids; rw [List.length_append, List.length_map]; simp only [List.length_cons, List.length_nil]; omega)
  unfold row mids at e9
  rw [List.map_cons, List.map_cons, List.map_nil] at e9
  rw [e9]
  walk_at "ev"
  have e10 := row_set (ns := allKs ks) (M := M) (by unfold allKs mids; rw [List.length_append, List.length_append, List.length_map]; simp only [List.length_cons, List.length_nil]; omega)
  unfold row allKs mids at e10
  unfold allKs mids
  rw [e10]
  walk_at "ev"
end
end K01
namespace K01
open PySem PySem.Spec L2 Yk
noncomputable section
local macro_rules | `(tactic| walk_at "ev") => `(tactic| simp only [runF, outF_nx, outF_rt, outF_exc, isi_int_int, isi_int_bool, isi_int_list, isi_int_tuple, isi_bl_int, isi_bl_bool, isi_lst_list, isi_lst_int, isi_tup_tuple, ev_bin, ev_two, ev_b, ev_un, ev_var, ev_c, ev_test, ev_asBl, sel_t, sel_f, ev_and, ev_or, ev_not, ev_if, selV_t, selV_f, ev_andV, ev_orV, ev_notV, notV_ok, ev_chain, chain_ok, ch2_ok, ch3_ok, ev_nil, ev_cons, cons_ok, push_ok, ev_tup, ev_lst, ev_new, mkTup2, mkLst0, mkNew0, mkTup_ok, mkLst_ok, ev_frz, ev_call, ev_fn, fnV1, fnV2, fnV3, ev_fnK, fnK2_10, fnK1, ev_meth, ev_seq, seq_nx, seq_rt, seq_bk, seq_ct, ev_skip, ev_set, st_ok, ev_asg, asg2, ev_par, par2, par3, ev_expr, ex_ok, ev_ret, ret_ok, ev_ifS, ite_t, ite_f, ev_for, it_ok, ev_itL, itL_ok, ev_itR1, ev_itR2, ev_itE, itE_ok, ev_itZ, itZ_ok, ev_lc, ev_lcN, lc_ok, lcV_ok, lcVN_ok, wipeA, ev_add, ev_sub, ev_lt, ev_le, ev_gt, ev_ge, ev_neg, ev_eqI, ev_eqS, ev_int, ev_int_b, ev_min2, ev_len_l, ev_len_t, ev_noP, ev_part, part_ok, ev_slice, sl_ok, sl2_ok, sl3_lst, List.getElem?_cons_zero, List.getElem?_cons_succ, List.set_cons_zero, List.set_cons_succ, List.map_cons, List.map_nil, List.length_cons, List.length_nil, List.replicate_succ, List.replicate_zero, List.cons_append, List.nil_append, Nat.reduceAdd, Nat.reduceSub, Nat.reduceLeDiff, if_true, if_false, Bool.false_eq_true, reduceIte, Bool.not_true, Bool.not_false, decide_true, decide_false])
local macro_rules | `(tactic| walk_at "evh") => `(tactic| simp only [runF, outF_nx, outF_rt, outF_exc, isi_int_int, isi_int_bool, isi_int_list, isi_int_tuple, isi_bl_int, isi_bl_bool, isi_lst_list, isi_lst_int, isi_tup_tuple, ev_bin, ev_two, ev_b, ev_un, ev_var, ev_c, ev_test, ev_asBl, sel_t, sel_f, ev_and, ev_or, ev_not, ev_if, selV_t, selV_f, ev_andV, ev_orV, ev_notV, notV_ok, ev_chain, chain_ok, ch2_ok, ch3_ok, ev_nil, ev_cons, cons_ok, push_ok, ev_tup, ev_lst, ev_new, mkTup2, mkLst0, mkNew0, mkTup_ok, mkLst_ok, ev_frz, ev_call, ev_fn, fnV1, fnV2, fnV3, ev_fnK, fnK2_10, fnK1, ev_meth, ev_seq, seq_nx, seq_rt, seq_bk, seq_ct, ev_skip, ev_set, st_ok, ev_asg, asg2, ev_par, par2, par3, ev_expr, ex_ok, ev_ret, ret_ok, ev_ifS, ite_t, ite_f, ev_for, it_ok, ev_itL, itL_ok, ev_itR1, ev_itR2, ev_itE, itE_ok, ev_itZ, itZ_ok, ev_lc, ev_lcN, lc_ok, lcV_ok, lcVN_ok, wipeA, ev_add, ev_sub, ev_lt, ev_le, ev_gt, ev_ge, ev_neg, ev_eqI, ev_eqS, ev_int, ev_int_b, ev_min2, ev_len_l, ev_len_t, ev_noP, ev_part, part_ok, ev_slice, sl_ok, sl2_ok, sl3_lst, List.getElem?_cons_zero, List.getElem?_cons_succ, List.set_cons_zero, List.set_cons_succ, List.map_cons, List.map_nil, List.length_cons, List.length_nil, List.replicate_succ, List.replicate_zero, List.cons_append, List.nil_append, Nat.reduceAdd, Nat.reduceSub, Nat.reduceLeDiff, if_true, if_false, Bool.false_eq_true, reduceIte, Bool.not_true, Bool.not_false, decide_true, decide_false, *])
/-! what repr shows of the tables and paths -/
def tabD (t : List (List Int)) : PyData := .list (t.map fun r => .list (r.map .int))
def plD (q : Int × Int) : PyData := .tuple [.int q.1, .int q.2]
def psD (ps : List (Int × Int)) : PyData := .list (ps.map plD)
theorem toDp_row {p : Nat → Option PyData} {r : List Int} : toDp p (row r) = some (.list (r.map .int)) := toDp_lst (toDps_map fun z _ => toDp_int)
theorem toDp_tab {p : Nat → Option PyData} {t : List (List Int)} : toDp p (tab t) = some (tabD t) := toDp_lst (toDps_map fun z _ => toDp_row)
theorem toDp_pl {p : Nat → Option PyData} {q : Int × Int} : toDp p (pl q) = some (plD q) := toDp_tup (toDps_two toDp_int toDp_int)
theorem toDps_ps {p : Nat → Option PyData} {ps : List (Int × Int)} : toDps p (ps.map pl) = some (ps.map plD) := toDps_map fun z _ => toDp_pl
theorem toDp_ps {p : Nat → Option PyData} {ps : List (Int × Int)} : toDp p (.lst (ps.map pl)) = some (psD ps) := toDp_lst toDps_ps
theorem ptr_ps {n l : Nat} {M : Mem} {ps : List (Int × Int)} (h : M[l]? = some (.lst (ps.map pl))) : toDp (ptrD M (n + 1)) (.ptr l) = some (psD ps) := ptrD_lst h toDps_ps
theorem lt200 {i : Int} (h : i.natAbs < 2 ^ 100) : i.natAbs < 2 ^ 200 := Nat.lt_of_lt_of_le h (by decide)
def Sm (q : Int × Int) : Prop := (-1 ≤ q.1 ∧ q.1 ≤ 8) ∧ -1 ≤ q.2 ∧ q.2 ≤ 8
theorem sm200 {i : Int} (h : -1 ≤ i ∧ i ≤ 8) : i.natAbs < 2 ^ 200 := Nat.lt_of_le_of_lt (show i.natAbs ≤ 8 by omega) (by decide)
theorem gd_pl {q : Int × Int} (h : Sm q) : Gd (plD q) 1 409 := Gd.tup (p := 0) (l := 201) (fun x hx => by
  rcases List.mem_cons.mp hx with e | e
  · rw [e]; exact Gd.int (sm200 h.1)
  · rw [List.mem_singleton.mp e]; exact Gd.int (sm200 h.2)) (Nat.le_refl _)
theorem gd_ps {ps : List (Int × Int)} (h : ∀ q ∈ ps, Sm q) (hl : ps.length ≤ 20) : Gd (psD ps) 2 8223 := Gd.list (p := 1) (l := 409) (fun x hx => by
  obtain ⟨q, hq, rfl⟩ := List.mem_map.mp hx
  exact gd_pl (h q hq)) (by rw [List.length_map]; omega)
theorem gd_tab {t : List (List Int)} {n : Nat} (h : OkT t n) : Gd (tabD t) 2 13035 := by
  have h8 := h.r8
  refine Gd.list (p := 1) (l := 1627) (fun x hx => ?_) (by rw [List.length_map]; omega)
  obtain ⟨r, hr, rfl⟩ := List.mem_map.mp hx
  have hn := h.len r hr
  have hc := h.c8
  refine Gd.list (p := 0) (l := 201) (fun y hy => ?_) (by rw [List.length_map]; omega)
  obtain ⟨v, hv, rfl⟩ := List.mem_map.mp hy
  exact Gd.int (lt200 (h.big r hr v hv))
theorem Wg_sm {f : Int → Int → Int} {m k : Int} (hm : m ≤ 8) : ∀ (fu : Nat) (i j : Int), 0 ≤ i → i ≤ m → -1 ≤ j → j ≤ 8 → (∀ q ∈ (Wg f m k fu i j).1, Sm q) ∧ Sm (Wg f m k fu i j).2
  | 0, i, j, h1, h2, h3, h4 => ⟨(fun _ h => absurd h List.not_mem_nil), ⟨by constructor <;> (show _ ≤ _; simp only [Wg]; omega), by constructor <;> (show _ ≤ _; simp only [Wg]; omega)⟩⟩
  | fu + 1, i, j, h1, h2, h3, h4 => by
    have hs : Sm (i, j) := ⟨⟨by show -1 ≤ i; omega, by show i ≤ 8; omega⟩, h3, h4⟩
    by_cases hc : i < m ∧ 0 ≤ j
    · by_cases hk : f i j = k
      · rw [Wg_f hc hk]
        exact ⟨fun q hq => by rw [List.mem_singleton.mp hq]; exact hs, hs⟩
      · rw [Wg_s hc hk]
        obtain ⟨a1, a2⟩ := Wg_sm (f := f) (k := k) hm fu (if f i j < k then i + 1 else i) (if f i j < k then j else j - 1) (by split <;> omega) (by split <;> omega) (by split <;> omega) (by split <;> omega)
        exact ⟨fun q hq => (List.mem_cons.mp hq).elim (fun e => e ▸ hs) (a1 q), a2⟩
    · rw [Wg_o hc]
      exact ⟨(fun _ h => absurd h List.not_mem_nil), hs⟩
theorem W_sm {t : List (List Int)} {n : Nat} (h : OkT t n) (k : Int) : (∀ q ∈ (W t k).1, Sm q) ∧ Sm (W t k).2 := by
  have hl := head_len h
  obtain ⟨h1, h2, h3, h4, h5, h6⟩ := h
  exact Wg_sm (by omega) 20 0 _ (Int.le_refl 0) (by omega) (by omega) (by omega)
theorem sm_swp {q : Int × Int} (h : Sm q) : Sm (swp q) := ⟨h.2, h.1⟩
section
variable {ps : List (Int × Int)} {q : Int × Int} {M : Mem} {a b : Nat}
def twoD (d : PyData) : PyData := .list [d, d]
def fourD (d e : PyData) : PyData := .list [d, d, e, e]
theorem gd_two {d : PyData} {p l : Nat} (h : Gd d p l) : Gd (twoD d) (p + 1) (2 * l + 7) := Gd.list (p := p) (l := l) (fun x hx => by
  rcases List.mem_cons.mp hx with e | e
  · rw [e]; exact h
  · rw [List.mem_singleton.mp e]; exact h) (by simp only [List.length_cons, List.length_nil]; omega)
theorem gd_four {d e : PyData} {p l : Nat} (h : Gd d p l) (k : Gd e p l) : Gd (fourD d e) (p + 1) (4 * l + 11) := Gd.list (p := p) (l := l) (fun x hx => by
  rcases List.mem_cons.mp hx with z | hx
  · rw [z]; exact h
  rcases List.mem_cons.mp hx with z | hx
  · rw [z]; exact h
  rcases List.mem_cons.mp hx with z | hx
  · rw [z]; exact k
  rw [List.mem_singleton.mp hx]; exact k) (by simp only [List.length_cons, List.length_nil]; omega)
theorem r_tab {t : List (List Int)} {n : Nat} (h : OkT t n) : fRepr [tab t] M = .ok (.str (tabD t).shown) M := ev_repr toDp_tab rfl ((gd_tab h).ok (by decide) (by decide))
theorem r_ps (h : ∀ q ∈ ps, Sm q) (hl : ps.length ≤ 20) : fRepr [.lst (ps.map pl)] M = .ok (.str (psD ps).shown) M := ev_repr toDp_ps rfl ((gd_ps h hl).ok (by decide) (by decide))
theorem r_ptr (h : ∀ q ∈ ps, Sm q) (hl : ps.length ≤ 20) (ha : M[a]? = some (.lst (ps.map pl))) : fRepr [.ptr a] M = .ok (.str (psD ps).shown) M := ev_repr (ptr_ps ha) rfl ((gd_ps h hl).ok (by decide) (by decide))
theorem r_told (h : ∀ q ∈ ps, Sm q) (hl : ps.length ≤ 20) (ha : M[a]? = some (.lst (ps.map pl))) (hb : M[b]? = some (.lst (ps.map pl))) : fRepr [.lst [.ptr a, .ptr b]] M = .ok (.str (twoD (psD ps)).shown) M :=
  ev_repr (toDp_lst (toDps_two (ptr_ps ha) (ptr_ps hb))) rfl ((gd_two (gd_ps h hl)).ok (by decide) (by decide))
theorem r_dues (h : ∀ q ∈ ps, Sm q) (hl : ps.length ≤ 20) : fRepr [.lst [.lst (ps.map pl), .lst (ps.map pl)]] M = .ok (.str (twoD (psD ps)).shown) M :=
  ev_repr (toDp_lst (toDps_two toDp_ps toDp_ps)) rfl ((gd_two (gd_ps h hl)).ok (by decide) (by decide))
theorem r_ends (h : Sm q) : fRepr [.lst [pl q, pl q]] M = .ok (.str (twoD (plD q)).shown) M :=
  ev_repr (toDp_lst (toDps_two toDp_pl toDp_pl)) rfl ((gd_two (gd_pl h)).ok (by decide) (by decide))
theorem r_four (h : ∀ q ∈ ps, Sm q) (hl : ps.length ≤ 20) (hq : Sm q) (ha : M[a]? = some (.lst (ps.map pl))) (hb : M[b]? = some (.lst (ps.map pl))) : fRepr [.lst [.ptr a, .ptr b, pl q, pl q]] M = .ok (.str (fourD (psD ps) (plD q)).shown) M :=
  ev_repr (toDp_lst (toDps_four (ptr_ps ha) (ptr_ps hb) toDp_pl toDp_pl)) rfl ((gd_four (gd_ps h hl) ((gd_pl hq).mono (by decide) (by decide))).ok (by decide) (by decide))
theorem r_fourL (h : ∀ q ∈ ps, Sm q) (hl : ps.length ≤ 20) (hq : Sm q) : fRepr [.lst [.lst (ps.map pl), .lst (ps.map pl), pl q, pl q]] M = .ok (.str (fourD (psD ps) (plD q)).shown) M :=
  ev_repr (toDp_lst (toDps_four toDp_ps toDp_ps toDp_pl toDp_pl)) rfl ((gd_four (gd_ps h hl) ((gd_pl hq).mono (by decide) (by decide))).ok (by decide) (by decide))
theorem lst_0 {x : AV} {xs : List AV} : fIx (.lst (x :: xs)) (.int 0) M = .ok x M := ev_ix_l (Int.le_refl 0) rfl
theorem add22 {x y z w : AV} : fAdd (.lst [x, y]) (.lst [z, w]) M = .ok (.lst [x, y, z, w]) M := by
  unfold fAdd
  exact if_pos (by show 4 ≤ lim; unfold lim; omega)
theorem nes {s : Str} : fEqv true (.str s) (.str s) M = .ok (.bl false) M := by
  rw [ev_eqS, if_pos rfl, decide_eq_true rfl]
  rfl
theorem eqs {s : Str} : fEqv false (.str s) (.str s) M = .ok (.bl true) M := by
  rw [ev_eqS, if_neg Bool.false_ne_true, decide_eq_true rfl]
end
end
end K01
namespace K01
open PySem PySem.Spec L2 Yk
noncomputable section
local macro_rules | `(tactic| walk_at "ev") => `(tactic| simp only [runF, outF_nx, outF_rt, outF_exc, isi_int_int, isi_int_bool, isi_int_list, isi_int_tuple, isi_bl_int, isi_bl_bool, isi_lst_list, isi_lst_int, isi_tup_tuple, ev_bin, ev_two, ev_b, ev_un, ev_var, ev_c, ev_test, ev_asBl, sel_t, sel_f, ev_and, ev_or, ev_not, ev_if, selV_t, selV_f, ev_andV, ev_orV, ev_notV, notV_ok, ev_chain, chain_ok, ch2_ok, ch3_ok, ev_nil, ev_cons, cons_ok, push_ok, ev_tup, ev_lst, ev_new, mkTup2, mkLst0, mkNew0, mkTup_ok, mkLst_ok, ev_frz, ev_call, ev_fn, fnV1, fnV2, fnV3, ev_fnK, fnK2_10, fnK1, ev_meth, ev_seq, seq_nx, seq_rt, seq_bk, seq_ct, ev_skip, ev_set, st_ok, ev_asg, asg2, ev_par, par2, par3, ev_expr, ex_ok, ev_ret, ret_ok, ev_ifS, ite_t, ite_f, ev_for, it_ok, ev_itL, itL_ok, ev_itR1, ev_itR2, ev_itE, itE_ok, ev_itZ, itZ_ok, ev_lc, ev_lcN, lc_ok, lcV_ok, lcVN_ok, wipeA, ev_add, ev_sub, ev_lt, ev_le, ev_gt, ev_ge, ev_neg, ev_eqI, ev_eqS, ev_int, ev_int_b, ev_min2, ev_len_l, ev_len_t, ev_noP, ev_part, part_ok, ev_slice, sl_ok, sl2_ok, sl3_lst, List.getElem?_cons_zero, List.getElem?_cons_succ, List.set_cons_zero, List.set_cons_succ, List.map_cons, List.map_nil, List.length_cons, List.length_nil, List.replicate_succ, List.replicate_zero, List.cons_append, List.nil_append, Nat.reduceAdd, Nat.reduceSub, Nat.reduceLeDiff, if_true, if_false, Bool.false_eq_true, reduceIte, Bool.not_true, Bool.not_false, decide_true, decide_false])
local macro_rules | `(tactic| walk_at "evh") => `(tactic| simp only [runF, outF_nx, outF_rt, outF_exc, isi_int_int, isi_int_bool, isi_int_list, isi_int_tuple, isi_bl_int, isi_bl_bool, isi_lst_list, isi_lst_int, isi_tup_tuple, ev_bin, ev_two, ev_b, ev_un, ev_var, ev_c, ev_test, ev_asBl, sel_t, sel_f, ev_and, ev_or, ev_not, ev_if, selV_t, selV_f, ev_andV, ev_orV, ev_notV, notV_ok, ev_chain, chain_ok, ch2_ok, ch3_ok, ev_nil, ev_cons, cons_ok, push_ok, ev_tup, ev_lst, ev_new, mkTup2, mkLst0, mkNew0, mkTup_ok, mkLst_ok, ev_frz, ev_call, ev_fn, fnV1, fnV2, fnV3, ev_fnK, fnK2_10, fnK1, ev_meth, ev_seq, seq_nx, seq_rt, seq_bk, seq_ct, ev_skip, ev_set, st_ok, ev_asg, asg2, ev_par, par2, par3, ev_expr, ex_ok, ev_ret, ret_ok, ev_ifS, ite_t, ite_f, ev_for, it_ok, ev_itL, itL_ok, ev_itR1, ev_itR2, ev_itE, itE_ok, ev_itZ, itZ_ok, ev_lc, ev_lcN, lc_ok, lcV_ok, lcVN_ok, wipeA, ev_add, ev_sub, ev_lt, ev_le, ev_gt, ev_ge, ev_neg, ev_eqI, ev_eqS, ev_int, ev_int_b, ev_min2, ev_len_l, ev_len_t, ev_noP, ev_part, part_ok, ev_slice, sl_ok, sl2_ok, sl3_lst, List.getElem?_cons_zero, List.getElem?_cons_succ, List.set_cons_zero, List.set_cons_succ, List.map_cons, List.map_nil, List.length_cons, List.length_nil, List.replicate_succ, List.replicate_zero, List.cons_append, List.nil_append, Nat.reduceAdd, Nat.reduceSub, Nat.reduceLeDiff, if_true, if_false, Bool.false_eq_true, reduceIte, Bool.not_true, Bool.not_false, decide_true, decide_false, *])
def bRight : AS := (aSeq (aAsg (.tp [(.nm 3), (.nm 4)]) (aFn 2 F._law_way (aCons (aVar 0) (aCons (aVar 2) aNil))))
  (aSeq (aSet 5 (aLst (aCons (aFn 2 F.path (aCons (aVar 0) (aCons (aVar 2) aNil))) (aCons (aFnK 2 F.path 2 [1, 0] (aCons (aVar 2) (aCons (aVar 0) aNil))) aNil))))
  (aSeq (aIfS (aTest (aBin (fEqv true) (aCall fRepr (aCons (aVar 5) aNil)) (aCall fRepr (aCons (aLst (aCons (aVar 3) (aCons (aVar 3) aNil))) aNil)))) (aRet (aC (.bl false))) aSkip)
  (aSeq (aExpr (aMethL fApp (aBin fIx (aVar 5) (aC (.int 0))) (aCons (aC .non) aNil)))
  (aSeq (aSet 6 (aLst (aCons (aFn 2 F.end (aCons (aVar 0) (aCons (aVar 2) aNil))) (aCons (aFnK 2 F.end 2 [1, 0] (aCons (aVar 2) (aCons (aVar 0) aNil))) aNil))))
  (aSeq (aIfS (aOr (aTest (aBin (fEqv true) (aCall fRepr (aCons (aFn 2 F.path (aCons (aVar 0) (aCons (aVar 2) aNil))) aNil)) (aCall fRepr (aCons (aVar 3) aNil)))) (aTest (aBin (fEqv true) (aCall fRepr (aCons (aVar 6) aNil)) (aCall fRepr (aCons (aLst (aCons (aVar 4) (aCons (aVar 4) aNil))) aNil))))) (aRet (aC (.bl false))) aSkip)
  (aSeq (aAsg (.tp [(.nm 3), (.nm 4)]) (aFn 2 F._law_way_up (aCons (aVar 0) (aCons (aVar 2) aNil))))
  (aSeq (aSet 5 (aLst (aCons (aFn 2 F.path_from_below (aCons (aVar 0) (aCons (aVar 2) aNil))) (aCons (aFnK 2 F.path_from_below 2 [1, 0] (aCons (aVar 2) (aCons (aVar 0) aNil))) aNil))))
  (aSeq (aSet 7 (aLst (aCons (aFn 2 F.end_from_below (aCons (aVar 0) (aCons (aVar 2) aNil))) (aCons (aFnK 2 F.end_from_below 2 [1, 0] (aCons (aVar 2) (aCons (aVar 0) aNil))) aNil))))
  (aSeq (aIfS (aOr (aTest (aBin (fEqv true) (aCall fRepr (aCons (aBin fAdd (aVar 5) (aVar 7)) aNil)) (aCall fRepr (aCons (aLst (aCons (aVar 3) (aCons (aVar 3) (aCons (aVar 4) (aCons (aVar 4) aNil))))) aNil)))) (aTest (aBin (fEqv true) (aCall fRepr (aCons (aVar 0) aNil)) (aVar 1)))) (aRet (aC (.bl false))) aSkip)
  (aSeq (aExpr (aMethL fApp (aBin fIx (aVar 5) (aC (.int 0))) (aCons (aC .non) aNil)))
  (aIfS (aTest (aBin (fEqv true) (aCall fRepr (aCons (aFn 2 F.path_from_below (aCons (aVar 0) (aCons (aVar 2) aNil))) aNil)) (aCall fRepr (aCons (aVar 3) aNil)))) (aRet (aC (.bl false))) aSkip))))))))))))

theorem meth_0 {M G : Mem} {xs : List AV} {h : Mem → Res (List AV)} {g : AV → List AV → Mem → Res AV} : Res.meth (.ok (.ptr M.length) (M ++ MO.lst xs :: G)) h g = (h (M ++ MO.lst xs :: G)).bind (g (.ptr M.length)) := meth_ptr (xs := xs) at_0
theorem meth_n {M G : Mem} {n : Nat} {xs : List AV} {h : Mem → Res (List AV)} {g : AV → List AV → Mem → Res AV} (e : G[n]? = some (.lst xs)) : Res.meth (.ok (.ptr (M.length + n)) (M ++ G)) h g = (h (M ++ G)).bind (g (.ptr (M.length + n))) := meth_ptr (xs := xs) (at_n.trans e)
theorem fApp_0 {M G : Mem} {xs : List AV} {y : AV} (hl : xs.length < 1000) : fApp (.ptr M.length) [y] (M ++ MO.lst xs :: G) = .ok .non (M ++ MO.lst (xs ++ [y]) :: G) := by rw [fApp_ok at_0 hl, set_0]
theorem fApp_n {M G : Mem} {n : Nat} {xs : List AV} {y : AV} (e : G[n]? = some (.lst xs)) (hl : xs.length < 1000) : fApp (.ptr (M.length + n)) [y] (M ++ G) = .ok .non (M ++ G.set n (.lst (xs ++ [y]))) := by rw [fApp_ok (at_n.trans e) hl, set_n]
theorem right_body {t : List (List Int)} {n : Nat} (h : OkT t n) (k : Int) (a3 a4 a5 a6 a7 : Option AV) (M : Mem) :
    bRight [some (tab t), some (.str (tabD t).shown), some (.int k), a3, a4, a5, a6, a7] M = .nx [some (tab t), some (.str (tabD t).shown), some (.int k), some (.lst (pthU t k)), some (pl (swp (W (turn t) k).2)), some (.lst [.ptr (M.length + 4), .ptr (M.length + 6)]), some (.lst [pl (W t k).2, pl (W t k).2]), some (.lst [pl (swp (W (turn t) k).2), pl (swp (W (turn t) k).2)])]
      (M ++ [.lst (pth t k ++ [.non]), .lst (pth t k), .lst (pth t k), .dead, .lst (pthU t k ++ [.non]), .dead, .lst (pthU t k), .dead, .lst (pthU t k)]) := by
  obtain ⟨w1, w2⟩ := W_sm h k
  have w3 := W_len t k
  obtain ⟨v1, v2⟩ := W_sm (turn_ok h) k
  have v3 := W_len (turn t) k
  have e1 := F_law_way h k
  have e2 := F_path h k
  have e3 := F_end h k
  have e4 := F_law_way_up h k
  have e5 := F_path_below h k
  have e6 := F_end_below h k
  unfold pth at e1 e2 ⊢
  generalize hp : (W t k).1 = ps at *
  generalize hq : (W t k).2 = q at *
  have hu : pthU t k = ((W (turn t) k).1.map swp).map pl := by
    unfold pthU
    rw [List.map_map]
    rfl
  have u1 : ∀ p ∈ (W (turn t) k).1.map swp, Sm p := fun p hp => by
    obtain ⟨p', hp', rfl⟩ := List.mem_map.mp hp
    exact sm_swp (v1 p' hp')
  have u2 : ((W (turn t) k).1.map swp).length ≤ 20 := by rw [List.length_map]; exact v3
  have u3 := sm_swp v2
  rw [hu] at e4 e5 ⊢
  generalize (W (turn t) k).1.map swp = us at *
  generalize swp (W (turn t) k).2 = z at *
  have m1 : (ps.map pl).length < 1000 := by rw [List.length_map]; omega
  have m2 : (us.map pl).length < 1000 := by rw [List.length_map]; omega
  unfold bRight
  walk_at "ev"
  simp only [e1]
  walk_at "ev"
  simp only [e2]
  walk_at "ev"
  simp only [e2, List.append_assoc, List.length_append]
  walk_at "ev"
  rw [r_told w1 w3 at_0 (at_n (n := 1))]
  walk_at "ev"
  rw [r_dues w1 w3]
  walk_at "ev"
  rw [lst_0]
  try walk_at "ev"
  rw [meth_0]
  walk_at "ev"
  rw [fApp_0 m1]
  walk_at "ev"
  simp only [e3]
  walk_at "ev"
  simp only [e3]
  walk_at "ev"
  simp only [e2, List.append_assoc, List.length_append]
  walk_at "ev"
  rw [r_ptr w1 w3 (at_n (n := 2))]
  walk_at "ev"
  rw [r_ps w1 w3]
  walk_at "ev"
  rw [r_ends w2]
  walk_at "ev"
  rw [r_ends w2]
  walk_at "ev"
  simp only [e4]
  walk_at "ev"
  simp only [e5, List.append_assoc, List.length_append]
  walk_at "ev"
  simp only [e5, List.append_assoc, List.length_append, Nat.add_assoc]
  walk_at "ev"
  simp only [e6]
  walk_at "ev"
  simp only [e6]
  walk_at "ev"
  rw [add22]
  walk_at "ev"
  rw [r_four u1 u2 u3 (at_n (n := 4)) (at_n (n := 6))]
  walk_at "ev"
  rw [r_fourL u1 u2 u3]
  walk_at "ev"
  rw [r_tab h]
  walk_at "ev"
  rw [lst_0]
  try walk_at "ev"
  rw [meth_n (n := 4) (xs := us.map pl) rfl]
  walk_at "ev"
  rw [fApp_n (n := 4) (xs := us.map pl) rfl m2]
  walk_at "ev"
  simp only [e5, List.append_assoc, List.length_append, Nat.add_assoc]
  walk_at "ev"
  rw [r_ptr u1 u2 (at_n (n := 8))]
  walk_at "ev"
  rw [r_ps u1 u2]
  walk_at "ev"
end
end K01
namespace K01
open PySem PySem.Spec L2 Yk
noncomputable section
local macro_rules | `(tactic| walk_at "ev") => `(tactic| simp only [runF, outF_nx, outF_rt, outF_exc, isi_int_int, isi_int_bool, isi_int_list, isi_int_tuple, isi_bl_int, isi_bl_bool, isi_lst_list, isi_lst_int, isi_tup_tuple, ev_bin, ev_two, ev_b, ev_un, ev_var, ev_c, ev_test, ev_asBl, sel_t, sel_f, ev_and, ev_or, ev_not, ev_if, selV_t, selV_f, ev_andV, ev_orV, ev_notV, notV_ok, ev_chain, chain_ok, ch2_ok, ch3_ok, ev_nil, ev_cons, cons_ok, push_ok, ev_tup, ev_lst, ev_new, mkTup2, mkLst0, mkNew0, mkTup_ok, mkLst_ok, ev_frz, ev_call, ev_fn, fnV1, fnV2, fnV3, ev_fnK, fnK2_10, fnK1, ev_meth, ev_seq, seq_nx, seq_rt, seq_bk, seq_ct, ev_skip, ev_set, st_ok, ev_asg, asg2, ev_par, par2, par3, ev_expr, ex_ok, ev_ret, ret_ok, ev_ifS, ite_t, ite_f, ev_for, it_ok, ev_itL, itL_ok, ev_itR1, ev_itR2, ev_itE, itE_ok, ev_itZ, itZ_ok, ev_lc, ev_lcN, lc_ok, lcV_ok, lcVN_ok, wipeA, ev_add, ev_sub, ev_lt, ev_le, ev_gt, ev_ge, ev_neg, ev_eqI, ev_eqS, ev_int, ev_int_b, ev_min2, ev_len_l, ev_len_t, ev_noP, ev_part, part_ok, ev_slice, sl_ok, sl2_ok, sl3_lst, List.getElem?_cons_zero, List.getElem?_cons_succ, List.set_cons_zero, List.set_cons_succ, List.map_cons, List.map_nil, List.length_cons, List.length_nil, List.replicate_succ, List.replicate_zero, List.cons_append, List.nil_append, Nat.reduceAdd, Nat.reduceSub, Nat.reduceLeDiff, if_true, if_false, Bool.false_eq_true, reduceIte, Bool.not_true, Bool.not_false, decide_true, decide_false])
local macro_rules | `(tactic| walk_at "evh") => `(tactic| simp only [runF, outF_nx, outF_rt, outF_exc, isi_int_int, isi_int_bool, isi_int_list, isi_int_tuple, isi_bl_int, isi_bl_bool, isi_lst_list, isi_lst_int, isi_tup_tuple, ev_bin, ev_two, ev_b, ev_un, ev_var, ev_c, ev_test, ev_asBl, sel_t, sel_f, ev_and, ev_or, ev_not, ev_if, selV_t, selV_f, ev_andV, ev_orV, ev_notV, notV_ok, ev_chain, chain_ok, ch2_ok, ch3_ok, ev_nil, ev_cons, cons_ok, push_ok, ev_tup, ev_lst, ev_new, mkTup2, mkLst0, mkNew0, mkTup_ok, mkLst_ok, ev_frz, ev_call, ev_fn, fnV1, fnV2, fnV3, ev_fnK, fnK2_10, fnK1, ev_meth, ev_seq, seq_nx, seq_rt, seq_bk, seq_ct, ev_skip, ev_set, st_ok, ev_asg, asg2, ev_par, par2, par3, ev_expr, ex_ok, ev_ret, ret_ok, ev_ifS, ite_t, ite_f, ev_for, it_ok, ev_itL, itL_ok, ev_itR1, ev_itR2, ev_itE, itE_ok, ev_itZ, itZ_ok, ev_lc, ev_lcN, lc_ok, lcV_ok, lcVN_ok, wipeA, ev_add, ev_sub, ev_lt, ev_le, ev_gt, ev_ge, ev_neg, ev_eqI, ev_eqS, ev_int, ev_int_b, ev_min2, ev_len_l, ev_len_t, ev_noP, ev_part, part_ok, ev_slice, sl_ok, sl2_ok, sl3_lst, List.getElem?_cons_zero, List.getElem?_cons_succ, List.set_cons_zero, List.set_cons_succ, List.map_cons, List.map_nil, List.length_cons, List.length_nil, List.replicate_succ, List.replicate_zero, List.cons_append, List.nil_append, Nat.reduceAdd, Nat.reduceSub, Nat.reduceLeDiff, if_true, if_false, Bool.false_eq_true, reduceIte, Bool.not_true, Bool.not_false, decide_true, decide_false, *])
def JR (t : List (List Int)) (M : Mem) (_ : Nat) (δ : Sl) (M2 : Mem) : Prop := ∃ a2 a3 a4 a5 a6 a7 G, δ = [some (tab t), some (.str (tabD t).shown), a2, a3, a4, a5, a6, a7] ∧ M2 = M ++ G
theorem F_law_right {t : List (List Int)} {n : Nat} (h : OkT t n) (M : Mem) : F._law_right [tab t] M = .ok (.bl true) M := by
  obtain ⟨δ2, M2, e, b2, b3, b4, b5, b6, b7, G, rfl, rfl⟩ := forL_inv (t := .nm 2) (g := AV.int) (b := bRight) (JR t M) (l := sortI (dedupS (allKs (sortI (dedupS t.flatten))))) (fun i z _ δ M2 ⟨a2, a3, a4, a5, a6, a7, G, e1, e2⟩ => by
    subst e1 e2
    exact ⟨_, rfl, _, _, right_body h z a3 a4 a5 a6 a7 _, _, _, _, _, _, _, _, rfl, List.append_assoc _ _ _⟩) [some (tab t), some (.str (tabD t).shown), none, none, none, none, none, none] M ⟨_, _, _, _, _, _, [], rfl, by rw [List.append_nil]⟩
  refine clean_made (G := G) ?_ rfl
  unfold b__law_right
  walk_at "ev"
  rw [r_tab h]
  walk_at "ev"
  rw [F_law_keys h]
  walk_at "ev"
  rw [itL_row]
  walk_at "ev"
  unfold bRight at e
  rw [e]
  walk_at "ev"
  rw [r_tab h]
  walk_at "ev"
end
end K01
namespace K01
open PySem PySem.Spec L2 Yk
noncomputable section
local macro_rules | `(tactic| walk_at "ev") => `(tactic| simp only [runF, outF_nx, outF_rt, outF_exc, isi_int_int, isi_int_bool, isi_int_list, isi_int_tuple, isi_bl_int, isi_bl_bool, isi_lst_list, isi_lst_int, isi_tup_tuple, ev_bin, ev_two, ev_b, ev_un, ev_var, ev_c, ev_test, ev_asBl, sel_t, sel_f, ev_and, ev_or, ev_not, ev_if, selV_t, selV_f, ev_andV, ev_orV, ev_notV, notV_ok, ev_chain, chain_ok, ch2_ok, ch3_ok, ev_nil, ev_cons, cons_ok, push_ok, ev_tup, ev_lst, ev_new, mkTup2, mkLst0, mkNew0, mkTup_ok, mkLst_ok, ev_frz, ev_call, ev_fn, fnV1, fnV2, fnV3, ev_fnK, fnK2_10, fnK1, ev_meth, ev_seq, seq_nx, seq_rt, seq_bk, seq_ct, ev_skip, ev_set, st_ok, ev_asg, asg2, ev_par, par2, par3, ev_expr, ex_ok, ev_ret, ret_ok, ev_ifS, ite_t, ite_f, ev_for, it_ok, ev_itL, itL_ok, ev_itR1, ev_itR2, ev_itE, itE_ok, ev_itZ, itZ_ok, ev_lc, ev_lcN, lc_ok, lcV_ok, lcVN_ok, wipeA, ev_add, ev_sub, ev_lt, ev_le, ev_gt, ev_ge, ev_neg, ev_eqI, ev_eqS, ev_int, ev_int_b, ev_min2, ev_len_l, ev_len_t, ev_noP, ev_part, part_ok, ev_slice, sl_ok, sl2_ok, sl3_lst, List.getElem?_cons_zero, List.getElem?_cons_succ, List.set_cons_zero, List.set_cons_succ, List.map_cons, List.map_nil, List.length_cons, List.length_nil, List.replicate_succ, List.replicate_zero, List.cons_append, List.nil_append, Nat.reduceAdd, Nat.reduceSub, Nat.reduceLeDiff, if_true, if_false, Bool.false_eq_true, reduceIte, Bool.not_true, Bool.not_false, decide_true, decide_false])
local macro_rules | `(tactic| walk_at "evh") => `(tactic| simp only [runF, outF_nx, outF_rt, outF_exc, isi_int_int, isi_int_bool, isi_int_list, isi_int_tuple, isi_bl_int, isi_bl_bool, isi_lst_list, isi_lst_int, isi_tup_tuple, ev_bin, ev_two, ev_b, ev_un, ev_var, ev_c, ev_test, ev_asBl, sel_t, sel_f, ev_and, ev_or, ev_not, ev_if, selV_t, selV_f, ev_andV, ev_orV, ev_notV, notV_ok, ev_chain, chain_ok, ch2_ok, ch3_ok, ev_nil, ev_cons, cons_ok, push_ok, ev_tup, ev_lst, ev_new, mkTup2, mkLst0, mkNew0, mkTup_ok, mkLst_ok, ev_frz, ev_call, ev_fn, fnV1, fnV2, fnV3, ev_fnK, fnK2_10, fnK1, ev_meth, ev_seq, seq_nx, seq_rt, seq_bk, seq_ct, ev_skip, ev_set, st_ok, ev_asg, asg2, ev_par, par2, par3, ev_expr, ex_ok, ev_ret, ret_ok, ev_ifS, ite_t, ite_f, ev_for, it_ok, ev_itL, itL_ok, ev_itR1, ev_itR2, ev_itE, itE_ok, ev_itZ, itZ_ok, ev_lc, ev_lcN, lc_ok, lcV_ok, lcVN_ok, wipeA, ev_add, ev_sub, ev_lt, ev_le, ev_gt, ev_ge, ev_neg, ev_eqI, ev_eqS, ev_int, ev_int_b, ev_min2, ev_len_l, ev_len_t, ev_noP, ev_part, part_ok, ev_slice, sl_ok, sl2_ok, sl3_lst, List.getElem?_cons_zero, List.getElem?_cons_succ, List.set_cons_zero, List.set_cons_succ, List.map_cons, List.map_nil, List.length_cons, List.length_nil, List.replicate_succ, List.replicate_zero, List.cons_append, List.nil_append, Nat.reduceAdd, Nat.reduceSub, Nat.reduceLeDiff, if_true, if_false, Bool.false_eq_true, reduceIte, Bool.not_true, Bool.not_false, decide_true, decide_false, *])
/-! the law's draws -/
def Drw (k : Int) (c : MO) : Prop := ∃ n b, c = .lst [.int n, .int k, .bl b]
theorem Drw.cl {k : Int} {c : MO} {m : Nat} (h : Drw k c) : c.cl m = true := by
  obtain ⟨n, b, rfl⟩ := h
  rfl
theorem ev_store {v o i : AE} {δ : Sl} {M M1 M2 M3 : Mem} {x : AV} {l : Nat} {j : Int} {xs : List AV} {m : Nat} (h1 : v δ M = .ok x M1) (h2 : o δ M1 = .ok (.ptr l) M2) (h3 : i δ M2 = .ok (.int j) M3) (hl : M3[l]? = some (.lst xs)) (hm : ixN xs.length j = some m) :
    aStore v o i δ M = .nx δ (M3.set l (.lst (xs.set m x))) := by
  unfold aStore
  rw [h1]
  show (o δ M1).then δ _ = _
  rw [h2]
  show (i δ M2).then δ _ = _
  rw [h3]
  show (match M3[l]? with
    | some (.lst xs) => match ixN xs.length j with
      | some m => SRes.nx δ (M3.set l (.lst (xs.set m x)))
      | none => .bad
    | _ => .bad) = _
  simp only [hl, hm]
theorem ev_ix_p3 {M : Mem} {l : Nat} {x y z : AV} (h : M[l]? = some (.lst [x, y, z])) : fIx (.ptr l) (.int 0) M = .ok x M ∧ fIx (.ptr l) (.int 1) M = .ok y M ∧ fIx (.ptr l) (.int 2) M = .ok z M :=
  ⟨ev_ix_p h (by decide) rfl, ev_ix_p h (by decide) rfl, ev_ix_p h (by decide) rfl⟩
theorem F_law_draws (c : Int) (M : Mem) : ∃ d, Drw 0 d ∧ F._law_draws [.int c] M = .ok (.ptr M.length) (M ++ [d]) := by
  refine ⟨_, ⟨c % ((10 ^ 60) ^ 60) ^ 4, decide ((10 : Int) ^ 18 ≤ c), rfl⟩, clean_keep ?_ (decide_eq_false (Nat.lt_irrefl _))⟩
  unfold b__law_draws
  walk_at "ev"
  have e1 : fPow (.int 10) (.int 60) M = .ok (.int (10 ^ 60)) M := ev_pow (by decide) (by decide) (by decide)
  have e2 : fPow (.int (10 ^ 60)) (.int 60) M = .ok (.int ((10 ^ 60) ^ 60)) M := ev_pow (by decide) (by decide) (by decide +kernel)
  have e3 : fPow (.int ((10 ^ 60) ^ 60)) (.int 4) M = .ok (.int (((10 ^ 60) ^ 60) ^ 4)) M := ev_pow (by decide) (by decide) (by decide +kernel)
  have e4 : fPow (.int 10) (.int 18) M = .ok (.int (10 ^ 18)) M := ev_pow (by decide) (by decide) (by decide)
  have hp : (0 : Int) < ((10 ^ 60) ^ 60) ^ 4 := Int.pow_pos (Int.pow_pos (Int.pow_pos (by decide)))
  rw [e1]
  walk_at "ev"
  rw [e2]
  walk_at "ev"
  rw [e3]
  generalize (((10 : Int) ^ 60) ^ 60) ^ 4 = B at hp ⊢
  walk_at "ev"
  rw [ev_mod hp]
  walk_at "ev"
  rw [e4]
  walk_at "ev"
  rw [mkNew_ok (by simp)]
  walk_at "ev"
theorem mul_b {x y A B : Int} (h1 : 0 ≤ x ∧ x ≤ A) (h2 : 0 ≤ y ∧ y ≤ B) : 0 ≤ x * y ∧ x * y ≤ A * B := ⟨Int.mul_nonneg h1.1 h2.1, Int.mul_le_mul h1.2 h2.2 h2.1 (Int.le_trans h1.1 h1.2)⟩
theorem ev_mulb {x y : Int} {M : Mem} (h1 : 0 ≤ x ∧ x ≤ 10 ^ 40) (h2 : 0 ≤ y ∧ y ≤ 10 ^ 40) : fMul (.int x) (.int y) M = .ok (.int (x * y)) M :=
  ev_mul (Nat.lt_of_le_of_lt (show x.natAbs ≤ 10 ^ 40 by omega) (by decide)) (Nat.lt_of_le_of_lt (show y.natAbs ≤ 10 ^ 40 by omega) (by decide))
theorem mod_b {x m : Int} (h : 0 < m) : 0 ≤ x % m ∧ x % m ≤ m := ⟨Int.emod_nonneg _ (by omega), Int.le_of_lt (Int.emod_lt_of_pos _ h)⟩
theorem set_get {M : Mem} {l : Nat} {c d : MO} (h : M[l]? = some c) : (M.set l d)[l]? = some d := List.getElem?_set_self (List.getElem?_eq_some_iff.mp h).1
theorem F_law_next {M : Mem} {l : Nat} {k : Int} {d : MO} (hd : M[l]? = some d) (h : Drw k d) (h0 : 0 ≤ k) (hk : k ≤ 1000000) : ∃ v d', Drw (k + 1) d' ∧ 0 ≤ v ∧ v < 10000000000 ∧ F._law_next [.ptr l] M = .ok (.int v) (M.set l d') := by
  obtain ⟨n, b, rfl⟩ := h
  obtain ⟨i0, i1, i2⟩ := ev_ix_p3 hd
  have hd2 : (M.set l (.lst [.int n, .int (k + 1), .bl b]))[l]? = some (.lst [.int n, .int (k + 1), .bl b]) := set_get hd
  obtain ⟨j0, j1, j2⟩ := ev_ix_p3 hd2
  have e6 : ∀ M, fPow (.int 10) (.int 6) M = .ok (.int (10 ^ 6)) M := fun M => ev_pow (by decide) (by decide) (by decide)
  have s1 : ∀ {v : AE} {δ : Sl}, v δ M = .ok (.int (k + 1)) M → δ[0]? = some (some (.ptr l)) → aStore v (aVar 0) (aC (.int 1)) δ M = .nx δ (M.set l (.lst [.int n, .int (k + 1), .bl b])) := fun {v δ} h h2 =>
    ev_store (xs := [.int n, .int k, .bl b]) (m := 1) (M1 := M) (M2 := M) (M3 := M) h (by unfold aVar; rw [h2]) rfl hd rfl
  cases b with
  | true =>
    refine ⟨n % 10 ^ 6, .lst [.int (n / 10 ^ 6), .int (k + 1), .bl true], ⟨_, _, rfl⟩, Int.emod_nonneg _ (by decide), Int.lt_trans (Int.emod_lt_of_pos _ (by decide)) (by decide), clean_ok (G := []) (M' := M.set l (.lst [.int (n / 10 ^ 6), .int (k + 1), .bl true])) ?_ (by rw [List.length_set]) (.set rfl) rfl⟩
    rw [List.append_nil]
    unfold b__law_next
    walk_at "ev"
    rw [s1 (by walk_at "ev"; rw [i1]; walk_at "ev") rfl]
    walk_at "ev"
    rw [j1]
    walk_at "ev"
    rw [j2]
    walk_at "ev"
    rw [j0]
    walk_at "ev"
    rw [e6]
    walk_at "ev"
    rw [ev_mod (by decide)]
    walk_at "ev"
    rw [ev_store (x := .int (n / 10 ^ 6)) (M1 := M.set l (.lst [.int n, .int (k + 1), .bl true])) (M2 := M.set l (.lst [.int n, .int (k + 1), .bl true])) (M3 := M.set l (.lst [.int n, .int (k + 1), .bl true])) (l := l) (j := 0) (xs := [.int n, .int (k + 1), .bl true]) (m := 0) (by
      walk_at "ev"
      rw [j0]
      walk_at "ev"
      rw [e6]
      walk_at "ev"
      rw [ev_div (by decide) (by decide)]) rfl rfl hd2 rfl]
    walk_at "ev"
    rw [List.set_set]
  | false =>
    have u0 : 0 ≤ k + 1 ∧ k + 1 ≤ 1000001 := ⟨by omega, by omega⟩
    have u1 := mul_b u0 u0
    have u2 := mul_b (B := 7919) u1 (y := 7919) ⟨by decide, Int.le_refl _⟩
    have u3 := mod_b (x := n) (m := 1000003) (by decide)
    have u4 : 0 ≤ n % 1000003 + (k + 1) * (k + 1) * 7919 + (k + 1) ∧ n % 1000003 + (k + 1) * (k + 1) * 7919 + (k + 1) ≤ 10 ^ 20 := ⟨by omega, by omega⟩
    generalize hz : n % 1000003 + (k + 1) * (k + 1) * 7919 + (k + 1) = z at u4
    have v1 := mod_b (x := z * 48271) (m := 2147483629) (by decide)
    generalize hn1 : z * 48271 % 2147483629 = n1 at v1
    have v2 := mod_b (x := n1 * n1) (m := 2147483587) (by decide)
    generalize hn2 : n1 * n1 % 2147483587 = n2 at v2
    have v3 := mod_b (x := n2 * (n2 + 2)) (m := 2147483579) (by decide)
    refine ⟨n2 * (n2 + 2) % 2147483579 / 7, .lst [.int n, .int (k + 1), .bl false], ⟨_, _, rfl⟩, by omega, by omega, clean_ok (G := []) (M' := M.set l (.lst [.int n, .int (k + 1), .bl false])) ?_ (by rw [List.length_set]) (.set rfl) rfl⟩
    rw [List.append_nil]
    unfold b__law_next
    walk_at "ev"
    rw [s1 (by walk_at "ev"; rw [i1]; walk_at "ev") rfl]
    walk_at "ev"
    rw [j1]
    walk_at "ev"
    rw [j2]
    walk_at "ev"
    rw [j0]
    walk_at "ev"
    rw [ev_mod (by decide)]
    walk_at "ev"
    rw [ev_mulb ⟨by omega, by omega⟩ ⟨by omega, by omega⟩]
    walk_at "ev"
    rw [ev_mulb ⟨by omega, by omega⟩ ⟨by decide, by decide⟩]
    walk_at "ev"
    rw [hz, ev_mulb ⟨by omega, by omega⟩ ⟨by decide, by decide⟩]
    walk_at "ev"
    rw [ev_mod (by decide), hn1]
    walk_at "ev"
    rw [ev_mulb ⟨by omega, by omega⟩ ⟨by omega, by omega⟩]
    walk_at "ev"
    rw [ev_mod (by decide), hn2]
    walk_at "ev"
    rw [ev_mulb ⟨by omega, by omega⟩ ⟨by omega, by omega⟩]
    walk_at "ev"
    rw [ev_mod (by decide)]
    walk_at "ev"
    rw [ev_div (by decide) (by decide)]
    walk_at "ev"
end
end K01
namespace K01
open PySem PySem.Spec L2 Yk
noncomputable section
local macro_rules | `(tactic| walk_at "ev") => `(tactic| simp only [runF, outF_nx, outF_rt, outF_exc, isi_int_int, isi_int_bool, isi_int_list, isi_int_tuple, isi_bl_int, isi_bl_bool, isi_lst_list, isi_lst_int, isi_tup_tuple, ev_bin, ev_two, ev_b, ev_un, ev_var, ev_c, ev_test, ev_asBl, sel_t, sel_f, ev_and, ev_or, ev_not, ev_if, selV_t, selV_f, ev_andV, ev_orV, ev_notV, notV_ok, ev_chain, chain_ok, ch2_ok, ch3_ok, ev_nil, ev_cons, cons_ok, push_ok, ev_tup, ev_lst, ev_new, mkTup2, mkLst0, mkNew0, mkTup_ok, mkLst_ok, ev_frz, ev_call, ev_fn, fnV1, fnV2, fnV3, ev_fnK, fnK2_10, fnK1, ev_meth, ev_seq, seq_nx, seq_rt, seq_bk, seq_ct, ev_skip, ev_set, st_ok, ev_asg, asg2, ev_par, par2, par3, ev_expr, ex_ok, ev_ret, ret_ok, ev_ifS, ite_t, ite_f, ev_for, it_ok, ev_itL, itL_ok, ev_itR1, ev_itR2, ev_itE, itE_ok, ev_itZ, itZ_ok, ev_lc, ev_lcN, lc_ok, lcV_ok, lcVN_ok, wipeA, ev_add, ev_sub, ev_lt, ev_le, ev_gt, ev_ge, ev_neg, ev_eqI, ev_eqS, ev_int, ev_int_b, ev_min2, ev_len_l, ev_len_t, ev_noP, ev_part, part_ok, ev_slice, sl_ok, sl2_ok, sl3_lst, List.getElem?_cons_zero, List.getElem?_cons_succ, List.set_cons_zero, List.set_cons_succ, List.map_cons, List.map_nil, List.length_cons, List.length_nil, List.replicate_succ, List.replicate_zero, List.cons_append, List.nil_append, Nat.reduceAdd, Nat.reduceSub, Nat.reduceLeDiff, if_true, if_false, Bool.false_eq_true, reduceIte, Bool.not_true, Bool.not_false, decide_true, decide_false])
local macro_rules | `(tactic| walk_at "evh") => `(tactic| simp only [runF, outF_nx, outF_rt, outF_exc, isi_int_int, isi_int_bool, isi_int_list, isi_int_tuple, isi_bl_int, isi_bl_bool, isi_lst_list, isi_lst_int, isi_tup_tuple, ev_bin, ev_two, ev_b, ev_un, ev_var, ev_c, ev_test, ev_asBl, sel_t, sel_f, ev_and, ev_or, ev_not, ev_if, selV_t, selV_f, ev_andV, ev_orV, ev_notV, notV_ok, ev_chain, chain_ok, ch2_ok, ch3_ok, ev_nil, ev_cons, cons_ok, push_ok, ev_tup, ev_lst, ev_new, mkTup2, mkLst0, mkNew0, mkTup_ok, mkLst_ok, ev_frz, ev_call, ev_fn, fnV1, fnV2, fnV3, ev_fnK, fnK2_10, fnK1, ev_meth, ev_seq, seq_nx, seq_rt, seq_bk, seq_ct, ev_skip, ev_set, st_ok, ev_asg, asg2, ev_par, par2, par3, ev_expr, ex_ok, ev_ret, ret_ok, ev_ifS, ite_t, ite_f, ev_for, it_ok, ev_itL, itL_ok, ev_itR1, ev_itR2, ev_itE, itE_ok, ev_itZ, itZ_ok, ev_lc, ev_lcN, lc_ok, lcV_ok, lcVN_ok, wipeA, ev_add, ev_sub, ev_lt, ev_le, ev_gt, ev_ge, ev_neg, ev_eqI, ev_eqS, ev_int, ev_int_b, ev_min2, ev_len_l, ev_len_t, ev_noP, ev_part, part_ok, ev_slice, sl_ok, sl2_ok, sl3_lst, List.getElem?_cons_zero, List.getElem?_cons_succ, List.set_cons_zero, List.set_cons_succ, List.map_cons, List.map_nil, List.length_cons, List.length_nil, List.replicate_succ, List.replicate_zero, List.cons_append, List.nil_append, Nat.reduceAdd, Nat.reduceSub, Nat.reduceLeDiff, if_true, if_false, Bool.false_eq_true, reduceIte, Bool.not_true, Bool.not_false, decide_true, decide_false, *])
/-! places behind a store of known length -/
section
variable {Y G : Mem} {L n : Nat} {xs : List AV} {y : AV} {c c2 d : MO}
theorem at_L0 (hY : Y.length = L) : (Y ++ c :: G)[L]? = some c := by rw [← hY]; exact at_0
theorem at_Ln (hY : Y.length = L) : (Y ++ G)[L + n]? = G[n]? := by rw [← hY]; exact at_n
theorem set_L0 (hY : Y.length = L) : (Y ++ c :: G).set L c2 = Y ++ c2 :: G := by rw [← hY]; exact set_0
theorem set_Ln (hY : Y.length = L) : (Y ++ G).set (L + n) c2 = Y ++ G.set n c2 := by rw [← hY]; exact set_n
theorem at_lo {l : Nat} (h : Y[l]? = some c) : (Y ++ G)[l]? = some c := by rw [List.getElem?_append_left (List.getElem?_eq_some_iff.mp h).1]; exact h
theorem set_lo {l : Nat} (h : Y[l]? = some c) : (Y ++ G).set l d = Y.set l d ++ G := by rw [List.set_append_left _ _ (List.getElem?_eq_some_iff.mp h).1]
theorem meth_L {h : Mem → Res (List AV)} {g : AV → List AV → Mem → Res AV} (hY : Y.length = L) : Res.meth (.ok (.ptr L) (Y ++ MO.lst xs :: G)) h g = (h (Y ++ MO.lst xs :: G)).bind (g (.ptr L)) := meth_ptr (xs := xs) (at_L0 hY)
theorem meth_Ln {h : Mem → Res (List AV)} {g : AV → List AV → Mem → Res AV} (hY : Y.length = L) (e : G[n]? = some (.lst xs)) : Res.meth (.ok (.ptr (L + n)) (Y ++ G)) h g = (h (Y ++ G)).bind (g (.ptr (L + n))) := meth_ptr (xs := xs) ((at_Ln hY).trans e)
theorem fApp_Ln (hY : Y.length = L) (e : G[n]? = some (.lst xs)) (hl : xs.length < 1000) : fApp (.ptr (L + n)) [y] (Y ++ G) = .ok .non (Y ++ G.set n (.lst (xs ++ [y]))) := by rw [fApp_ok ((at_Ln hY).trans e) hl, set_Ln hY]
theorem fPop_L {j : Int} (hY : Y.length = L) (h0 : 0 ≤ j) (h1 : j < xs.length) (h2 : j < 100000) (e : xs[j.toNat]? = some y) : fPopAt (.ptr L) [.int j] (Y ++ MO.lst xs :: G) = .ok y (Y ++ MO.lst (xs.eraseIdx j.toNat) :: G) := by
  unfold fPopAt
  simp only [at_L0 hY]
  rw [if_pos ⟨h0, h1, h2⟩]
  simp only [e]
  rw [set_L0 hY]
theorem len_L {M : Mem} (hY : Y.length = L) : fLen [.ptr L] (Y ++ MO.lst xs :: G) = .ok (.int xs.length) (Y ++ MO.lst xs :: G) := ev_len_p (at_L0 hY)
theorem frz_Ln (hY : Y.length = L) (e : G[n]? = some (.lst xs)) : frzV (.ptr (L + n)) (Y ++ G) = .ok (.lst xs) (Y ++ G.set n .dead) := by rw [frzV_ok ((at_Ln hY).trans e), set_Ln hY]
end
def lrngV (x : AV) (M1 : Mem) : Res AV := match x with
  | .int n => if 0 ≤ n ∧ n ≤ 100000 then .ok (.ptr M1.length) (M1 ++ [.lst (rngA 0 n.toNat)]) else .bad
  | _ => .bad
theorem ev_lrng {a : AE} {δ : Sl} {M : Mem} : aLRng a δ M = Res.bind (a δ M) lrngV := rfl
theorem lrng_nat {n : Nat} {M : Mem} (h : n ≤ 100000) : lrngV (.int (n : Int)) M = .ok (.ptr M.length) (M ++ [.lst (((List.range n).map fun i : Nat => (i : Int)).map .int)]) := by
  show (if 0 ≤ (n : Int) ∧ (n : Int) ≤ 100000 then Res.ok (AV.ptr M.length) (M ++ [MO.lst (rngA 0 (n : Int).toNat)]) else .bad) = _
  rw [if_pos ⟨by omega, by omega⟩]
  unfold rngA
  rw [Int.toNat_natCast, List.map_map]
  have : (fun i : Nat => AV.int (0 + (i : Int))) = AV.int ∘ fun i : Nat => (i : Int) := by
    funext i
    show AV.int (0 + (i : Int)) = AV.int (i : Int)
    rw [Int.zero_add]
  rw [this]
theorem eraseIdx_map' {α β : Type} {f : α → β} : ∀ (l : List α) (j : Nat), (l.eraseIdx j).map f = (l.map f).eraseIdx j
  | [], _ => rfl
  | _ :: _, 0 => rfl
  | a :: l, j + 1 => by
    show f a :: (l.eraseIdx j).map f = f a :: (l.map f).eraseIdx j
    rw [eraseIdx_map' l j]
def In64 (vs : List Int) : Prop := ∀ v ∈ vs, 0 ≤ v ∧ v < 64
def bOrd : AS := (aExpr (aMethL fApp (aVar 3) (aCons (aMethL fPopAt (aVar 2) (aCons (aBin fMod (aCall fInt (aCons (aFn 1 F._law_next (aCons (aVar 0) aNil)) aNil)) (aCall fLen (aCons (aVar 2) aNil))) aNil)) aNil)))
def JO (M : Mem) (l : Nat) (k : Int) (n : Nat) (i : Nat) (δ : Sl) (M2 : Mem) : Prop := ∃ d left told x, δ = [some (.ptr l), some (.int n), some (.ptr M.length), some (.ptr (M.length + 1)), x] ∧ M2 = M.set l d ++ [.lst (left.map .int), .lst (told.map .int)] ∧
  Drw (k + i) d ∧ left.length = n - i ∧ told.length = i ∧ In64 left ∧ In64 told
theorem ord_step {M : Mem} {l : Nat} {k : Int} {n : Nat} {c0 : MO} (hc0 : M[l]? = some c0) (h0 : 0 ≤ k) (hn : n ≤ 64) (hk : k + n ≤ 1000000) (i : Nat) (hi : i < n) (z : AV) (δ : Sl) (M2 : Mem) (J : JO M l k n i δ M2) :
    ∃ δ1, Tg.put (.nm 4) z δ = some δ1 ∧ ∃ δ2 M3, bOrd δ1 M2 = .nx δ2 M3 ∧ JO M l k n (i + 1) δ2 M3 := by
  obtain ⟨d, left, told, x, rfl, rfl, hD, h1, h2, g1, g2⟩ := J
  have hd : (M.set l d)[l]? = some d := set_get hc0
  have hY : (M.set l d).length = M.length := List.length_set
  obtain ⟨v, d', hD', v0, v1, e⟩ := F_law_next (l := l) (M := M.set l d ++ [.lst (left.map .int), .lst (told.map .int)]) (at_lo hd) hD (by omega) (by omega)
  rw [set_lo hd, List.set_set] at e
  have hY' : (M.set l d').length = M.length := List.length_set
  have hm0 := Int.emod_nonneg v (b := ((left.length : Nat) : Int)) (by omega)
  have hm1 := Int.emod_lt_of_pos v (b := ((left.length : Nat) : Int)) (by omega)
  generalize hj : v % ((left.length : Nat) : Int) = j at hm0 hm1
  have hjl : j.toNat < left.length := by omega
  refine ⟨_, rfl, [some (.ptr l), some (.int n), some (.ptr M.length), some (.ptr (M.length + 1)), some z], M.set l d' ++ [.lst ((left.eraseIdx j.toNat).map .int), .lst ((told ++ [left[j.toNat]]).map .int)], ?_, d', left.eraseIdx j.toNat, told ++ [left[j.toNat]], some z, rfl, rfl, ?_, ?_, ?_, ?_, ?_⟩
  · unfold bOrd
    walk_at "ev"
    rw [meth_Ln (n := 1) hY rfl]
    walk_at "ev"
    rw [meth_L hY]
    walk_at "ev"
    rw [e]
    walk_at "ev"
    rw [len_L (M := M) hY']
    walk_at "ev"
    rw [List.length_map, ev_mod (by omega), hj]
    walk_at "ev"
    rw [fPop_L (y := .int left[j.toNat]) hY' hm0 (by rw [List.length_map]; exact hm1) (by omega) (by rw [List.getElem?_map, List.getElem?_eq_getElem hjl]; rfl)]
    walk_at "ev"
    rw [fApp_Ln (n := 1) hY' rfl (by rw [List.length_map]; omega)]
    walk_at "ev"
    rw [List.map_append, ← eraseIdx_map']
    rfl
  · rw [show k + ((i + 1 : Nat) : Int) = k + (i : Int) + 1 by omega]
    exact hD'
  · rw [List.length_eraseIdx, if_pos hjl]
    omega
  · rw [List.length_append, List.length_singleton, h2]
  · exact fun v hv => g1 v (List.mem_of_mem_eraseIdx hv)
  · intro v hv
    rcases List.mem_append.mp hv with q | q
    · exact g2 v q
    · rw [List.mem_singleton.mp q]
      exact g1 _ (List.getElem_mem hjl)
theorem F_law_order {M : Mem} {l : Nat} {k : Int} {n : Nat} {c0 : MO} (hc0 : M[l]? = some c0) (hD : Drw k c0) (h0 : 0 ≤ k) (hn : n ≤ 64) (hk : k + n ≤ 1000000) :
    ∃ ns d', Drw (k + n) d' ∧ ns.length = n ∧ In64 ns ∧ F._law_order [.ptr l, .int n] M = .ok (row ns) (M.set l d') := by
  have hs : M.set l c0 = M := by
    refine List.ext_getElem? fun j => ?_
    by_cases hj : l = j
    · subst hj
      rw [set_get hc0, hc0]
    · rw [List.getElem?_set_ne hj]
  obtain ⟨δ2, M2, e, d, left, told, x, rfl, rfl, hD', h1, h2, g1, g2⟩ := forL_inv (t := .nm 4) (g := fun i : Nat => AV.int (0 + (i : Int))) (b := bOrd) (JO M l k n) (l := List.range n) (fun i z hz δ M2 J => ord_step hc0 h0 hn hk i (by
    have := (List.getElem?_eq_some_iff.mp hz).1
    rwa [List.length_range] at this) _ δ M2 J) [some (.ptr l), some (.int n), some (.ptr M.length), some (.ptr (M.length + 1)), none] (M ++ [.lst (((List.range n).map fun i : Nat => (i : Int)).map .int), .lst []])
    ⟨c0, (List.range n).map fun i : Nat => (i : Int), [], none, rfl, by rw [hs]; rfl, by rw [show k + ((0 : Nat) : Int) = k by omega]; exact hD, by rw [List.length_map, List.length_range]; omega, rfl, fun v hv => by
      obtain ⟨i, hi, rfl⟩ := List.mem_map.mp hv
      have := List.mem_range.mp hi
      omega, fun v hv => by cases hv⟩
  rw [List.length_range] at h1 h2 hD'
  refine ⟨told, d, hD', h2, g2, clean_ok (G := [.lst (left.map .int), .dead]) (M' := M.set l d) ?_ List.length_set (.set hD'.cl) row_cl⟩
  unfold b__law_order
  walk_at "ev"
  rw [ev_lrng]
  walk_at "ev"
  rw [lrng_nat (by omega)]
  walk_at "ev"
  rw [List.length_append, List.append_assoc, itR1_nat (by omega)]
  walk_at "ev"
  unfold rngA
  unfold bOrd at e
  rw [e]
  walk_at "ev"
  rw [frz_Ln (n := 1) List.length_set rfl]
  walk_at "ev"
  rfl
end
end K01
namespace K01
open PySem PySem.Spec L2 Yk
noncomputable section
local macro_rules | `(tactic| walk_at "ev") => `(tactic| simp only [runF, outF_nx, outF_rt, outF_exc, isi_int_int, isi_int_bool, isi_int_list, isi_int_tuple, isi_bl_int, isi_bl_bool, isi_lst_list, isi_lst_int, isi_tup_tuple, ev_bin, ev_two, ev_b, ev_un, ev_var, ev_c, ev_test, ev_asBl, sel_t, sel_f, ev_and, ev_or, ev_not, ev_if, selV_t, selV_f, ev_andV, ev_orV, ev_notV, notV_ok, ev_chain, chain_ok, ch2_ok, ch3_ok, ev_nil, ev_cons, cons_ok, push_ok, ev_tup, ev_lst, ev_new, mkTup2, mkLst0, mkNew0, mkTup_ok, mkLst_ok, ev_frz, ev_call, ev_fn, fnV1, fnV2, fnV3, ev_fnK, fnK2_10, fnK1, ev_meth, ev_seq, seq_nx, seq_rt, seq_bk, seq_ct, ev_skip, ev_set, st_ok, ev_asg, asg2, ev_par, par2, par3, ev_expr, ex_ok, ev_ret, ret_ok, ev_ifS, ite_t, ite_f, ev_for, it_ok, ev_itL, itL_ok, ev_itR1, ev_itR2, ev_itE, itE_ok, ev_itZ, itZ_ok, ev_lc, ev_lcN, lc_ok, lcV_ok, lcVN_ok, wipeA, ev_add, ev_sub, ev_lt, ev_le, ev_gt, ev_ge, ev_neg, ev_eqI, ev_eqS, ev_int, ev_int_b, ev_min2, ev_len_l, ev_len_t, ev_noP, ev_part, part_ok, ev_slice, sl_ok, sl2_ok, sl3_lst, List.getElem?_cons_zero, List.getElem?_cons_succ, List.set_cons_zero, List.set_cons_succ, List.map_cons, List.map_nil, List.length_cons, List.length_nil, List.replicate_succ, List.replicate_zero, List.cons_append, List.nil_append, Nat.reduceAdd, Nat.reduceSub, Nat.reduceLeDiff, if_true, if_false, Bool.false_eq_true, reduceIte, Bool.not_true, Bool.not_false, decide_true, decide_false])
local macro_rules | `(tactic| walk_at "evh") => `(tactic| simp only [runF, outF_nx, outF_rt, outF_exc, isi_int_int, isi_int_bool, isi_int_list, isi_int_tuple, isi_bl_int, isi_bl_bool, isi_lst_list, isi_lst_int, isi_tup_tuple, ev_bin, ev_two, ev_b, ev_un, ev_var, ev_c, ev_test, ev_asBl, sel_t, sel_f, ev_and, ev_or, ev_not, ev_if, selV_t, selV_f, ev_andV, ev_orV, ev_notV, notV_ok, ev_chain, chain_ok, ch2_ok, ch3_ok, ev_nil, ev_cons, cons_ok, push_ok, ev_tup, ev_lst, ev_new, mkTup2, mkLst0, mkNew0, mkTup_ok, mkLst_ok, ev_frz, ev_call, ev_fn, fnV1, fnV2, fnV3, ev_fnK, fnK2_10, fnK1, ev_meth, ev_seq, seq_nx, seq_rt, seq_bk, seq_ct, ev_skip, ev_set, st_ok, ev_asg, asg2, ev_par, par2, par3, ev_expr, ex_ok, ev_ret, ret_ok, ev_ifS, ite_t, ite_f, ev_for, it_ok, ev_itL, itL_ok, ev_itR1, ev_itR2, ev_itE, itE_ok, ev_itZ, itZ_ok, ev_lc, ev_lcN, lc_ok, lcV_ok, lcVN_ok, wipeA, ev_add, ev_sub, ev_lt, ev_le, ev_gt, ev_ge, ev_neg, ev_eqI, ev_eqS, ev_int, ev_int_b, ev_min2, ev_len_l, ev_len_t, ev_noP, ev_part, part_ok, ev_slice, sl_ok, sl2_ok, sl3_lst, List.getElem?_cons_zero, List.getElem?_cons_succ, List.set_cons_zero, List.set_cons_succ, List.map_cons, List.map_nil, List.length_cons, List.length_nil, List.replicate_succ, List.replicate_zero, List.cons_append, List.nil_append, Nat.reduceAdd, Nat.reduceSub, Nat.reduceLeDiff, if_true, if_false, Bool.false_eq_true, reduceIte, Bool.not_true, Bool.not_false, decide_true, decide_false, *])
/-! the tables that are nearly in order -/
theorem ev_swap {v : AE} {δ : Sl} {Y G : Mem} {L : Nat} {xs : List AV} {x1 x2 : AV} {i1 i2 l1 : Nat} {j1 j2 : Int} (hY : Y.length = L) (hv : v δ (Y ++ .lst xs :: G) = .ok (.tup [x1, x2]) (Y ++ .lst xs :: G))
    (h0 : δ[l1]? = some (some (.ptr L))) (h1 : δ[i1]? = some (some (.int j1))) (h2 : δ[i2]? = some (some (.int j2))) (a1 : 0 ≤ j1) (b1 : j1 < xs.length) (a2 : 0 ≤ j2) (b2 : j2 < xs.length) :
    aSwap v (aVar l1) (aVar i1) (aVar l1) (aVar i2) δ (Y ++ .lst xs :: G) = .nx δ (Y ++ .lst ((xs.set j1.toNat x1).set j2.toNat x2) :: G) := by
  have e0 : ∀ M, aVar l1 δ M = .ok (.ptr L) M := fun M => by unfold aVar; simp only [h0]
  have e1 : ∀ M, aVar i1 δ M = .ok (.int j1) M := fun M => by unfold aVar; simp only [h1]
  have e2 : ∀ M, aVar i2 δ M = .ok (.int j2) M := fun M => by unfold aVar; simp only [h2]
  have s1 : stAt (Y ++ .lst xs :: G) (.ptr L) (.int j1) x1 = some (Y ++ .lst (xs.set j1.toNat x1) :: G) := by
    unfold stAt
    simp only [at_L0 hY]
    rw [show ixN xs.length j1 = some j1.toNat by unfold ixN; rw [if_pos a1, if_pos b1]]
    simp only [set_L0 hY]
  have s2 : stAt (Y ++ .lst (xs.set j1.toNat x1) :: G) (.ptr L) (.int j2) x2 = some (Y ++ .lst ((xs.set j1.toNat x1).set j2.toNat x2) :: G) := by
    unfold stAt
    simp only [at_L0 hY]
    rw [show ixN (xs.set j1.toNat x1).length j2 = some j2.toNat by unfold ixN; rw [List.length_set, if_pos a2, if_pos b2]]
    simp only [set_L0 hY]
  unfold aSwap
  rw [hv]
  show (aVar l1 δ _).then δ _ = _
  rw [e0]
  show (aVar i1 δ _).then δ _ = _
  rw [e1]
  show (match stAt _ _ _ _ with | some M4 => _ | none => SRes.bad) = _
  rw [s1]
  show (aVar l1 δ _).then δ _ = _
  rw [e0]
  show (aVar i2 δ _).then δ _ = _
  rw [e2]
  show (match stAt _ _ _ _ with | some M4 => _ | none => SRes.bad) = _
  rw [s2]
noncomputable def itR3 (xs : List AV) (M1 : Mem) : Res (List AV) := open Classical in match xs with
  | [.int i, .int j, .int c] => if rngCok i j c then .ok (rngC i c (Builtin.Range.rangeSize i j c).toNat) M1 else .bad
  | _ => .bad
theorem ev_itR3 {p : AA} {δ : Sl} {M : Mem} : aItR3 p δ M = Res.bind (p δ M) itR3 := rfl
theorem fitsL {i : Int} (h : -10000000 ≤ i ∧ i ≤ 10000000) : Builtin.Range.rangeFitsLong i = true := by
  unfold Builtin.Range.rangeFitsLong
  rw [Bool.and_eq_true, decide_eq_true_eq, decide_eq_true_eq]
  omega
theorem itR3_nat {m n : Nat} {M : Mem} (hm : 1 ≤ m) (hn : 1 ≤ n) (h8 : m ≤ 1000) (n8 : n ≤ 1000) : itR3 [.int 0, .int ((m * n : Nat) : Int), .int (n : Int)] M = .ok ((List.range m).map fun i : Nat => AV.int (((i * n : Nat) : Nat) : Int)) M := by
  have hs : Builtin.Range.rangeSize 0 ((m * n : Nat) : Int) (n : Int) = (m : Int) := by
    have h1 : 0 < m * n := Nat.mul_pos hm hn
    unfold Builtin.Range.rangeSize
    rw [if_pos (by omega), if_pos (by omega)]
    have : (((m * n : Nat) : Int) - 0 - 1) = ((n : Int) - 1) + ((m : Int) - 1) * (n : Int) := by
      rw [Int.natCast_mul, Int.sub_mul]
      omega
    rw [this, Int.add_mul_ediv_right _ _ (by omega), Int.ediv_eq_zero_of_lt (by omega) (by omega)]
    omega
  have hmn : m * n ≤ 1000 * 1000 := Nat.mul_le_mul h8 n8
  show (open Classical in if rngCok 0 ((m * n : Nat) : Int) (n : Int) then Res.ok (rngC 0 (n : Int) (Builtin.Range.rangeSize 0 ((m * n : Nat) : Int) (n : Int)).toNat) M else .bad) = _
  rw [if_pos ⟨by omega, by omega, by
    unfold Builtin.Range.small
    rw [hs, fitsL (by omega), fitsL (by omega), fitsL (by omega), fitsL (by omega), if_pos (by omega), fitsL (by omega), Bool.or_true]
    rfl⟩, hs]
  unfold rngC
  rw [Int.toNat_natCast]
  have : (fun i : Nat => AV.int (0 + (i : Int) * (n : Int))) = fun i : Nat => AV.int (((i * n : Nat) : Nat) : Int) := by
    funext i
    rw [Int.zero_add, Int.natCast_mul]
  rw [this]
theorem cut_map {α β : Type} {f : α → β} {xs : List α} {lo hi : Option Int} : cutA (xs.map f) lo hi = (cutA xs lo hi).map f := by
  unfold cutA
  rw [List.length_map, List.map_take, List.map_drop]
theorem cut_nat {α : Type} {xs : List α} {i n : Nat} (h : i + n ≤ xs.length) : cutA xs (some (i : Int)) (some ((i : Int) + (n : Int))) = (xs.drop i).take n := by
  unfold cutA
  rw [show (i : Int) + (n : Int) = ((i + n : Nat) : Int) by omega, HT.sIx_nat, HT.sIx_nat, Nat.min_eq_left h, Nat.min_eq_left (by omega), Nat.add_sub_cancel_left]
def Bd (vs : List Int) : Prop := ∀ v ∈ vs, v.natAbs < 2 ^ 100
theorem cut_ok {vs : List Int} {m n : Nat} (hl : vs.length = m * n) (hb : Bd vs) (h1 : 1 ≤ m) (h8 : m ≤ 8) (n1 : 1 ≤ n) (n8 : n ≤ 8) : OkT ((List.range m).map fun i => (vs.drop (i * n)).take n) n := by
  refine ⟨by rw [List.length_map, List.length_range]; exact h1, by rw [List.length_map, List.length_range]; exact h8, n1, n8, fun r hr => ?_, fun r hr v hv => ?_⟩
  · obtain ⟨i, hi, rfl⟩ := List.mem_map.mp hr
    have hi := List.mem_range.mp hi
    have : (i + 1) * n ≤ m * n := Nat.mul_le_mul_right n hi
    rw [Nat.succ_mul] at this
    rw [List.length_take, List.length_drop, hl]
    omega
  · obtain ⟨i, hi, rfl⟩ := List.mem_map.mp hr
    exact hb v (List.mem_of_mem_drop (List.mem_of_mem_take hv))
end
end K01
namespace K01
open PySem PySem.Spec L2 Yk
noncomputable section
local macro_rules | `(tactic| walk_at "ev") => `(tactic| simp only [runF, outF_nx, outF_rt, outF_exc, isi_int_int, isi_int_bool, isi_int_list, isi_int_tuple, isi_bl_int, isi_bl_bool, isi_lst_list, isi_lst_int, isi_tup_tuple, ev_bin, ev_two, ev_b, ev_un, ev_var, ev_c, ev_test, ev_asBl, sel_t, sel_f, ev_and, ev_or, ev_not, ev_if, selV_t, selV_f, ev_andV, ev_orV, ev_notV, notV_ok, ev_chain, chain_ok, ch2_ok, ch3_ok, ev_nil, ev_cons, cons_ok, push_ok, ev_tup, ev_lst, ev_new, mkTup2, mkLst0, mkNew0, mkTup_ok, mkLst_ok, ev_frz, ev_call, ev_fn, fnV1, fnV2, fnV3, ev_fnK, fnK2_10, fnK1, ev_meth, ev_seq, seq_nx, seq_rt, seq_bk, seq_ct, ev_skip, ev_set, st_ok, ev_asg, asg2, ev_par, par2, par3, ev_expr, ex_ok, ev_ret, ret_ok, ev_ifS, ite_t, ite_f, ev_for, it_ok, ev_itL, itL_ok, ev_itR1, ev_itR2, ev_itE, itE_ok, ev_itZ, itZ_ok, ev_lc, ev_lcN, lc_ok, lcV_ok, lcVN_ok, wipeA, ev_add, ev_sub, ev_lt, ev_le, ev_gt, ev_ge, ev_neg, ev_eqI, ev_eqS, ev_int, ev_int_b, ev_min2, ev_len_l, ev_len_t, ev_noP, ev_part, part_ok, ev_slice, sl_ok, sl2_ok, sl3_lst, List.getElem?_cons_zero, List.getElem?_cons_succ, List.set_cons_zero, List.set_cons_succ, List.map_cons, List.map_nil, List.length_cons, List.length_nil, List.replicate_succ, List.replicate_zero, List.cons_append, List.nil_append, Nat.reduceAdd, Nat.reduceSub, Nat.reduceLeDiff, if_true, if_false, Bool.false_eq_true, reduceIte, Bool.not_true, Bool.not_false, decide_true, decide_false])
local macro_rules | `(tactic| walk_at "evh") => `(tactic| simp only [runF, outF_nx, outF_rt, outF_exc, isi_int_int, isi_int_bool, isi_int_list, isi_int_tuple, isi_bl_int, isi_bl_bool, isi_lst_list, isi_lst_int, isi_tup_tuple, ev_bin, ev_two, ev_b, ev_un, ev_var, ev_c, ev_test, ev_asBl, sel_t, sel_f, ev_and, ev_or, ev_not, ev_if, selV_t, selV_f, ev_andV, ev_orV, ev_notV, notV_ok, ev_chain, chain_ok, ch2_ok, ch3_ok, ev_nil, ev_cons, cons_ok, push_ok, ev_tup, ev_lst, ev_new, mkTup2, mkLst0, mkNew0, mkTup_ok, mkLst_ok, ev_frz, ev_call, ev_fn, fnV1, fnV2, fnV3, ev_fnK, fnK2_10, fnK1, ev_meth, ev_seq, seq_nx, seq_rt, seq_bk, seq_ct, ev_skip, ev_set, st_ok, ev_asg, asg2, ev_par, par2, par3, ev_expr, ex_ok, ev_ret, ret_ok, ev_ifS, ite_t, ite_f, ev_for, it_ok, ev_itL, itL_ok, ev_itR1, ev_itR2, ev_itE, itE_ok, ev_itZ, itZ_ok, ev_lc, ev_lcN, lc_ok, lcV_ok, lcVN_ok, wipeA, ev_add, ev_sub, ev_lt, ev_le, ev_gt, ev_ge, ev_neg, ev_eqI, ev_eqS, ev_int, ev_int_b, ev_min2, ev_len_l, ev_len_t, ev_noP, ev_part, part_ok, ev_slice, sl_ok, sl2_ok, sl3_lst, List.getElem?_cons_zero, List.getElem?_cons_succ, List.set_cons_zero, List.set_cons_succ, List.map_cons, List.map_nil, List.length_cons, List.length_nil, List.replicate_succ, List.replicate_zero, List.cons_append, List.nil_append, Nat.reduceAdd, Nat.reduceSub, Nat.reduceLeDiff, if_true, if_false, Bool.false_eq_true, reduceIte, Bool.not_true, Bool.not_false, decide_true, decide_false, *])
theorem set_same {M : Mem} {l : Nat} {c0 : MO} (hc0 : M[l]? = some c0) : M.set l c0 = M := by
  refine List.ext_getElem? fun j => ?_
  by_cases hj : l = j
  · subst hj
    rw [set_get hc0, hc0]
  · rw [List.getElem?_set_ne hj]
def bNear : AS := (aSeq (aSet 6 (aBin fMod (aCall fInt (aCons (aFn 1 F._law_next (aCons (aVar 0) aNil)) aNil)) (aCall fLen (aCons (aVar 3) aNil))))
  (aSeq (aSet 7 (aCall fMin2 (aCons (aBin fAdd (aBin fAdd (aVar 6) (aC (.int 1))) (aBin fMod (aCall fInt (aCons (aFn 1 F._law_next (aCons (aVar 0) aNil)) aNil)) (aC (.int 3)))) (aCons (aBin fSub (aCall fLen (aCons (aVar 3) aNil)) (aC (.int 1))) aNil))))
  (aSwap (aTup (aCons (aBin fIx (aVar 3) (aVar 7)) (aCons (aBin fIx (aVar 3) (aVar 6)) aNil))) (aVar 3) (aVar 6) (aVar 3) (aVar 7))))
def JN (M : Mem) (l : Nat) (k : Int) (a1 a2 a4 : AV) (N : Nat) (i : Nat) (δ : Sl) (M2 : Mem) : Prop := ∃ d vs x5 x6 x7, δ = [some (.ptr l), some a1, some a2, some (.ptr M.length), some a4, x5, x6, x7] ∧ M2 = M.set l d ++ [.lst (vs.map .int)] ∧
  Drw (k + 2 * i) d ∧ vs.length = N ∧ Bd vs
theorem ix_L {Y G M : Mem} {L : Nat} {xs : List AV} {x : AV} {j : Int} (hY : Y.length = L) (h : 0 ≤ j) (e : xs[j.toNat]? = some x) : fIx (.ptr L) (.int j) (Y ++ .lst xs :: G) = .ok x (Y ++ .lst xs :: G) := ev_ix_p (at_L0 hY) h e
theorem near_step {M : Mem} {l : Nat} {k : Int} {a1 a2 a4 : AV} {N : Nat} {c0 : MO} (hc0 : M[l]? = some c0) (h0 : 0 ≤ k) (hN : 1 ≤ N) (hN2 : N ≤ 64) (i : Nat) (hk : k + 2 * i ≤ 999990) (z : AV) (δ : Sl) (M2 : Mem) (J : JN M l k a1 a2 a4 N i δ M2) :
    ∃ δ1, Tg.put (.nm 5) z δ = some δ1 ∧ ∃ δ2 M3, bNear δ1 M2 = .nx δ2 M3 ∧ JN M l k a1 a2 a4 N (i + 1) δ2 M3 := by
  obtain ⟨d, vs, x5, x6, x7, rfl, rfl, hD, h1, g1⟩ := J
  have hd : (M.set l d)[l]? = some d := set_get hc0
  have hY : (M.set l d).length = M.length := List.length_set
  obtain ⟨v, d', hD', v0, v1, e⟩ := F_law_next (l := l) (M := M.set l d ++ [.lst (vs.map .int)]) (at_lo hd) hD (by omega) (by omega)
  rw [set_lo hd, List.set_set] at e
  have hY' : (M.set l d').length = M.length := List.length_set
  have hd' : (M.set l d')[l]? = some d' := set_get hc0
  obtain ⟨w, d2, hD2, w0, w1, e2⟩ := F_law_next (l := l) (M := M.set l d' ++ [.lst (vs.map .int)]) (at_lo hd') hD' (by omega) (by omega)
  rw [set_lo hd', List.set_set] at e2
  have hY2 : (M.set l d2).length = M.length := List.length_set
  have hm0 := Int.emod_nonneg v (b := ((vs.length : Nat) : Int)) (by omega)
  have hm1 := Int.emod_lt_of_pos v (b := ((vs.length : Nat) : Int)) (by omega)
  generalize hj : v % ((vs.length : Nat) : Int) = j at hm0 hm1
  have hq0 := Int.emod_nonneg w (b := 3) (by decide)
  have hp : ∃ p : Int, p = (if ((vs.length : Nat) : Int) - 1 < j + 1 + w % 3 then ((vs.length : Nat) : Int) - 1 else j + 1 + w % 3) ∧ 0 ≤ p ∧ p < vs.length := ⟨_, rfl, by split <;> omega, by split <;> omega⟩
  obtain ⟨p, hp, p0, p1⟩ := hp
  have hjl : j.toNat < vs.length := by omega
  have hpl : p.toNat < vs.length := by omega
  refine ⟨_, rfl, [some (.ptr l), some a1, some a2, some (.ptr M.length), some a4, some z, some (.int j), some (.int p)], M.set l d2 ++ [.lst (((vs.set j.toNat vs[p.toNat]).set p.toNat vs[j.toNat]).map .int)], ?_, d2, (vs.set j.toNat vs[p.toNat]).set p.toNat vs[j.toNat], some z, some (.int j), some (.int p), rfl, rfl, ?_, ?_, ?_⟩
  · unfold bNear
    walk_at "ev"
    rw [e]
    walk_at "ev"
    rw [len_L (M := M) hY']
    walk_at "ev"
    rw [List.length_map, ev_mod (by omega), hj]
    walk_at "ev"
    rw [e2]
    walk_at "ev"
    rw [ev_mod (by decide)]
    walk_at "ev"
    rw [len_L (M := M) hY2]
    walk_at "ev"
    rw [List.length_map, ← hp]
    rw [ev_swap (x1 := .int vs[p.toNat]) (x2 := .int vs[j.toNat]) (j1 := j) (j2 := p) hY2 (by
      walk_at "ev"
      rw [ix_L (M := M) hY2 p0 (by rw [List.getElem?_map, List.getElem?_eq_getElem hpl]; rfl)]
      walk_at "ev"
      rw [ix_L (M := M) hY2 hm0 (by rw [List.getElem?_map, List.getElem?_eq_getElem hjl]; rfl)]
      walk_at "ev") rfl rfl rfl hm0 (by rw [List.length_map]; exact hm1) p0 (by rw [List.length_map]; exact p1)]
    rw [List.map_set, List.map_set]
  · rw [show k + 2 * ((i + 1 : Nat) : Int) = k + 2 * (i : Int) + 1 + 1 by omega]
    exact hD2
  · rw [List.length_set, List.length_set, h1]
  · intro v hv
    rcases List.mem_or_eq_of_mem_set hv with q | q
    · rcases List.mem_or_eq_of_mem_set q with q | q
      · exact g1 v q
      · rw [q]; exact g1 _ (List.getElem_mem _)
    · rw [q]; exact g1 _ (List.getElem_mem _)
end
end K01
namespace K01
open PySem PySem.Spec L2 Yk
noncomputable section
local macro_rules | `(tactic| walk_at "ev") => `(tactic| simp only [runF, outF_nx, outF_rt, outF_exc, isi_int_int, isi_int_bool, isi_int_list, isi_int_tuple, isi_bl_int, isi_bl_bool, isi_lst_list, isi_lst_int, isi_tup_tuple, ev_bin, ev_two, ev_b, ev_un, ev_var, ev_c, ev_test, ev_asBl, sel_t, sel_f, ev_and, ev_or, ev_not, ev_if, selV_t, selV_f, ev_andV, ev_orV, ev_notV, notV_ok, ev_chain, chain_ok, ch2_ok, ch3_ok, ev_nil, ev_cons, cons_ok, push_ok, ev_tup, ev_lst, ev_new, mkTup2, mkLst0, mkNew0, mkTup_ok, mkLst_ok, ev_frz, ev_call, ev_fn, fnV1, fnV2, fnV3, ev_fnK, fnK2_10, fnK1, ev_meth, ev_seq, seq_nx, seq_rt, seq_bk, seq_ct, ev_skip, ev_set, st_ok, ev_asg, asg2, ev_par, par2, par3, ev_expr, ex_ok, ev_ret, ret_ok, ev_ifS, ite_t, ite_f, ev_for, it_ok, ev_itL, itL_ok, ev_itR1, ev_itR2, ev_itE, itE_ok, ev_itZ, itZ_ok, ev_lc, ev_lcN, lc_ok, lcV_ok, lcVN_ok, wipeA, ev_add, ev_sub, ev_lt, ev_le, ev_gt, ev_ge, ev_neg, ev_eqI, ev_eqS, ev_int, ev_int_b, ev_min2, ev_len_l, ev_len_t, ev_noP, ev_part, part_ok, ev_slice, sl_ok, sl2_ok, sl3_lst, List.getElem?_cons_zero, List.getElem?_cons_succ, List.set_cons_zero, List.set_cons_succ, List.map_cons, List.map_nil, List.length_cons, List.length_nil, List.replicate_succ, List.replicate_zero, List.cons_append, List.nil_append, Nat.reduceAdd, Nat.reduceSub, Nat.reduceLeDiff, if_true, if_false, Bool.false_eq_true, reduceIte, Bool.not_true, Bool.not_false, decide_true, decide_false])
local macro_rules | `(tactic| walk_at "evh") => `(tactic| simp only [runF, outF_nx, outF_rt, outF_exc, isi_int_int, isi_int_bool, isi_int_list, isi_int_tuple, isi_bl_int, isi_bl_bool, isi_lst_list, isi_lst_int, isi_tup_tuple, ev_bin, ev_two, ev_b, ev_un, ev_var, ev_c, ev_test, ev_asBl, sel_t, sel_f, ev_and, ev_or, ev_not, ev_if, selV_t, selV_f, ev_andV, ev_orV, ev_notV, notV_ok, ev_chain, chain_ok, ch2_ok, ch3_ok, ev_nil, ev_cons, cons_ok, push_ok, ev_tup, ev_lst, ev_new, mkTup2, mkLst0, mkNew0, mkTup_ok, mkLst_ok, ev_frz, ev_call, ev_fn, fnV1, fnV2, fnV3, ev_fnK, fnK2_10, fnK1, ev_meth, ev_seq, seq_nx, seq_rt, seq_bk, seq_ct, ev_skip, ev_set, st_ok, ev_asg, asg2, ev_par, par2, par3, ev_expr, ex_ok, ev_ret, ret_ok, ev_ifS, ite_t, ite_f, ev_for, it_ok, ev_itL, itL_ok, ev_itR1, ev_itR2, ev_itE, itE_ok, ev_itZ, itZ_ok, ev_lc, ev_lcN, lc_ok, lcV_ok, lcVN_ok, wipeA, ev_add, ev_sub, ev_lt, ev_le, ev_gt, ev_ge, ev_neg, ev_eqI, ev_eqS, ev_int, ev_int_b, ev_min2, ev_len_l, ev_len_t, ev_noP, ev_part, part_ok, ev_slice, sl_ok, sl2_ok, sl3_lst, List.getElem?_cons_zero, List.getElem?_cons_succ, List.set_cons_zero, List.set_cons_succ, List.map_cons, List.map_nil, List.length_cons, List.length_nil, List.replicate_succ, List.replicate_zero, List.cons_append, List.nil_append, Nat.reduceAdd, Nat.reduceSub, Nat.reduceLeDiff, if_true, if_false, Bool.false_eq_true, reduceIte, Bool.not_true, Bool.not_false, decide_true, decide_false, *])
theorem sort_tab {t : List (List Int)} {M : Mem} : fSortedN [row t.flatten] M = .ok (.ptr M.length) (M ++ [.lst ((sortI t.flatten).map .int)]) := ev_sortedN
theorem pick_149 {j : Int} (h : 3 ≤ j ∧ j ≤ 5) : ∃ c : Int, 1 ≤ c ∧ c ≤ 9 ∧ ∀ M, fIx (.lst [.int 1, .int 4, .int 9]) (.int (j - 3)) M = .ok (.int c) M := by
  have : j = 3 ∨ j = 4 ∨ j = 5 := by omega
  rcases this with rfl | rfl | rfl
  · exact ⟨1, by decide, by decide, fun M => ev_ix_l (by decide) rfl⟩
  · exact ⟨4, by decide, by decide, fun M => ev_ix_l (by decide) rfl⟩
  · exact ⟨9, by decide, by decide, fun M => ev_ix_l (by decide) rfl⟩
theorem F_law_nearly {M : Mem} {l : Nat} {k kind : Int} {t : List (List Int)} {n : Nat} {c0 : MO} (h : OkT t n) (hc0 : M[l]? = some c0) (hD : Drw k c0) (h0 : 0 ≤ k) (hk : k ≤ 999900) (hj : 3 ≤ kind ∧ kind ≤ 5) :
    ∃ t' k' d', OkT t' n ∧ k ≤ k' ∧ k' ≤ k + 20 ∧ Drw k' d' ∧ F._law_nearly [.ptr l, tab t, .int kind] M = .ok (tab t') (M.set l d') := by
  have hf := flat_len h.len
  have h64 : t.length * n ≤ 8 * 8 := Nat.mul_le_mul h.r8 h.c8
  have hpos : 1 * 1 ≤ t.length * n := Nat.mul_le_mul h.r1 h.c1
  have hs := sortI_len t.flatten
  obtain ⟨v, d1, hD1, v0, v1, e⟩ := F_law_next (l := l) (M := M ++ [.lst ((sortI t.flatten).map .int)]) (at_lo hc0) hD (by omega) (by omega)
  rw [set_lo hc0] at e
  obtain ⟨c, c1, c9, ec⟩ := pick_149 hj
  have q0 := Int.emod_nonneg v (b := c) (by omega)
  have q1 := Int.emod_lt_of_pos v (b := c) (by omega)
  have hbs : Bd (sortI t.flatten) := fun v hv => by
    obtain ⟨r, hr, hv⟩ := List.mem_flatten.mp ((sortI_perm _).mem_iff.mp hv)
    exact h.big r hr v hv
  generalize hcnt : (v % c).toNat = cnt
  obtain ⟨δ2, M2, e2, d, vs, x5, x6, x7, rfl, rfl, hD2, g1, g2⟩ := forL_inv (t := .nm 5) (g := fun i : Nat => AV.int (0 + (i : Int))) (b := bNear) (JN M l (k + 1) (tab t) (.int kind) (.int (n : Int)) (t.length * n)) (l := List.range cnt) (fun i z hz δ M2 J => near_step hc0 (by omega) (by omega) (by omega) i (by
    have := (List.getElem?_eq_some_iff.mp hz).1
    rw [List.length_range] at this
    omega) _ δ M2 J) [some (.ptr l), some (tab t), some (.int kind), some (.ptr M.length), some (.int n), none, none, none] (M.set l d1 ++ [.lst ((sortI t.flatten).map .int)])
    ⟨d1, sortI t.flatten, none, none, none, rfl, rfl, by rw [show k + 1 + 2 * ((0 : Nat) : Int) = k + 1 by omega]; exact hD1, by rw [hs, hf], hbs⟩
  rw [List.length_range] at hD2
  have hY : (M.set l d).length = M.length := List.length_set
  refine ⟨(List.range t.length).map fun i => (vs.drop (i * n)).take n, k + 1 + 2 * cnt, d, cut_ok g1 g2 h.r1 h.r8 h.c1 h.c8, by omega, by omega, hD2, clean_ok (G := [.lst (vs.map .int)]) (M' := M.set l d) ?_ List.length_set (.set hD2.cl) tab_cl⟩
  unfold b__law_nearly
  walk_at "ev"
  rw [tab_sum (by omega)]
  walk_at "ev"
  rw [sort_tab]
  walk_at "ev"
  rw [tab_0 h]
  walk_at "ev"
  rw [len_row, head_len h]
  walk_at "ev"
  rw [e]
  walk_at "ev"
  rw [ec]
  walk_at "ev"
  rw [ev_mod (by omega)]
  walk_at "ev"
  rw [itR1_ok (by omega) (by omega), hcnt]
  walk_at "ev"
  unfold rngA
  unfold bNear at e2
  rw [e2]
  walk_at "ev"
  rw [ev_itR3]
  walk_at "ev"
  rw [len_L (M := M) hY]
  walk_at "ev"
  rw [List.length_map, g1, itR3_nat h.r1 h.c1 (by have := h.r8; omega) (by have := h.c8; omega)]
  walk_at "ev"
  have hr8 := h.r8
  have em := fun (δ : Sl) => lcL_inv (t := .nm 6) (g := fun i : Nat => AV.int (((i * n : Nat) : Nat) : Int)) (a := (aSlice (aVar 3) (aPart (aVar 6)) (aPart (aBin fAdd (aVar 6) (aVar 4))))) (δ := [some (.ptr l), some (tab t), some (.int kind), some (.ptr M.length), some (.int n), x5, none, x7])
    (fun i acc M2 => M2 = M.set l d ++ [.lst (vs.map .int)] ∧ acc = ((List.range i).map fun i => row ((vs.drop (i * n)).take n))) (l := List.range t.length) (fun i z hz acc M2 ⟨z1, z2⟩ => by
      subst z1
      have hi := (List.getElem?_eq_some_iff.mp hz)
      obtain ⟨hi1, hi2⟩ := hi
      rw [List.length_range] at hi1
      rw [List.getElem_range] at hi2
      subst hi2
      have : (i + 1) * n ≤ t.length * n := Nat.mul_le_mul_right n hi1
      rw [Nat.succ_mul] at this
      refine ⟨_, rfl, row ((vs.drop (i * n)).take n), _, ?_, rfl, by rw [z2, List.range_succ, List.map_append]; rfl⟩
      walk_at "ev"
      rw [sl3_ptr (at_L0 hY), cut_map, cut_nat (by omega)]
      rfl) [] (M.set l d ++ [.lst (vs.map .int)]) (by rw [List.length_nil, List.length_range]; omega) ⟨rfl, rfl⟩
  obtain ⟨acc2, M3, ez, rfl, rfl⟩ := em []
  rw [List.length_range] at ez
  rw [ez]
  walk_at "ev"
  unfold tab
  rw [List.map_map]
  rfl
end
end K01
namespace K01
open PySem PySem.Spec L2 Yk
noncomputable section
local macro_rules | `(tactic| walk_at "ev") => `(tactic| simp only [runF, outF_nx, outF_rt, outF_exc, isi_int_int, isi_int_bool, isi_int_list, isi_int_tuple, isi_bl_int, isi_bl_bool, isi_lst_list, isi_lst_int, isi_tup_tuple, ev_bin, ev_two, ev_b, ev_un, ev_var, ev_c, ev_test, ev_asBl, sel_t, sel_f, ev_and, ev_or, ev_not, ev_if, selV_t, selV_f, ev_andV, ev_orV, ev_notV, notV_ok, ev_chain, chain_ok, ch2_ok, ch3_ok, ev_nil, ev_cons, cons_ok, push_ok, ev_tup, ev_lst, ev_new, mkTup2, mkLst0, mkNew0, mkTup_ok, mkLst_ok, ev_frz, ev_call, ev_fn, fnV1, fnV2, fnV3, ev_fnK, fnK2_10, fnK1, ev_meth, ev_seq, seq_nx, seq_rt, seq_bk, seq_ct, ev_skip, ev_set, st_ok, ev_asg, asg2, ev_par, par2, par3, ev_expr, ex_ok, ev_ret, ret_ok, ev_ifS, ite_t, ite_f, ev_for, it_ok, ev_itL, itL_ok, ev_itR1, ev_itR2, ev_itE, itE_ok, ev_itZ, itZ_ok, ev_lc, ev_lcN, lc_ok, lcV_ok, lcVN_ok, wipeA, ev_add, ev_sub, ev_lt, ev_le, ev_gt, ev_ge, ev_neg, ev_eqI, ev_eqS, ev_int, ev_int_b, ev_min2, ev_len_l, ev_len_t, ev_noP, ev_part, part_ok, ev_slice, sl_ok, sl2_ok, sl3_lst, List.getElem?_cons_zero, List.getElem?_cons_succ, List.set_cons_zero, List.set_cons_succ, List.map_cons, List.map_nil, List.length_cons, List.length_nil, List.replicate_succ, List.replicate_zero, List.cons_append, List.nil_append, Nat.reduceAdd, Nat.reduceSub, Nat.reduceLeDiff, if_true, if_false, Bool.false_eq_true, reduceIte, Bool.not_true, Bool.not_false, decide_true, decide_false])
local macro_rules | `(tactic| walk_at "evh") => `(tactic| simp only [runF, outF_nx, outF_rt, outF_exc, isi_int_int, isi_int_bool, isi_int_list, isi_int_tuple, isi_bl_int, isi_bl_bool, isi_lst_list, isi_lst_int, isi_tup_tuple, ev_bin, ev_two, ev_b, ev_un, ev_var, ev_c, ev_test, ev_asBl, sel_t, sel_f, ev_and, ev_or, ev_not, ev_if, selV_t, selV_f, ev_andV, ev_orV, ev_notV, notV_ok, ev_chain, chain_ok, ch2_ok, ch3_ok, ev_nil, ev_cons, cons_ok, push_ok, ev_tup, ev_lst, ev_new, mkTup2, mkLst0, mkNew0, mkTup_ok, mkLst_ok, ev_frz, ev_call, ev_fn, fnV1, fnV2, fnV3, ev_fnK, fnK2_10, fnK1, ev_meth, ev_seq, seq_nx, seq_rt, seq_bk, seq_ct, ev_skip, ev_set, st_ok, ev_asg, asg2, ev_par, par2, par3, ev_expr, ex_ok, ev_ret, ret_ok, ev_ifS, ite_t, ite_f, ev_for, it_ok, ev_itL, itL_ok, ev_itR1, ev_itR2, ev_itE, itE_ok, ev_itZ, itZ_ok, ev_lc, ev_lcN, lc_ok, lcV_ok, lcVN_ok, wipeA, ev_add, ev_sub, ev_lt, ev_le, ev_gt, ev_ge, ev_neg, ev_eqI, ev_eqS, ev_int, ev_int_b, ev_min2, ev_len_l, ev_len_t, ev_noP, ev_part, part_ok, ev_slice, sl_ok, sl2_ok, sl3_lst, List.getElem?_cons_zero, List.getElem?_cons_succ, List.set_cons_zero, List.set_cons_succ, List.map_cons, List.map_nil, List.length_cons, List.length_nil, List.replicate_succ, List.replicate_zero, List.cons_append, List.nil_append, Nat.reduceAdd, Nat.reduceSub, Nat.reduceLeDiff, if_true, if_false, Bool.false_eq_true, reduceIte, Bool.not_true, Bool.not_false, decide_true, decide_false, *])
/-! the tables that the law draws -/
def sI0 : AS := (aIfS (aTest (aBin (fEqv false) (aVar 4) (aC (.int 0)))) (aSet 5 (aLc (aItL (aVar 5)) [7] (.nm 7) aYes (aBin fMod (aCall fInt (aCons (aVar 7) aNil)) (aBin fAdd (aC (.int 2)) (aBin fMod (aCall fInt (aCons (aVar 6) aNil)) (aC (.int 9))))))) aSkip)
def sI1 : AS := (aIfS (aTest (aBin (fEqv false) (aVar 4) (aC (.int 1)))) (aSet 5 (aLc (aItL (aVar 5)) [7] (.nm 7) aYes (aBin fAdd (aBin fMul (aBin fSub (aVar 7) (aC (.int 7))) (aBin fPow (aC (.int 10)) (aC (.int 17)))) (aBin fMod (aCall fInt (aCons (aVar 6) aNil)) (aC (.int 5)))))) (aIfS (aAnd (aTest (aBin (fEqv false) (aVar 4) (aC (.int 6)))) (aTest (aBin fGt (aBin fMod (aCall fInt (aCons (aVar 6) aNil)) (aC (.int 4))) (aC (.int 0))))) (aSet 5 (aLc (aItL (aVar 5)) [8] (.nm 8) aYes (aBin fMod (aCall fInt (aCons (aFn 1 F._law_next (aCons (aVar 0) aNil)) aNil)) (aBin fIx (aLst (aCons (aC (.int 1)) (aCons (aC (.int 2)) (aCons (aC (.int 4)) (aCons (aC (.int 90)) aNil))))) (aBin fMod (aBin fDiv (aCall fInt (aCons (aVar 6) aNil)) (aC (.int 4))) (aC (.int 4))))))) (aIfS (aTest (aBin fGt (aBin fMod (aCall fInt (aCons (aVar 6) aNil)) (aC (.int 4))) (aC (.int 1)))) (aSet 5 (aLc (aItL (aVar 5)) [7] (.nm 7) aYes (aBin fPow (aBin fSub (aVar 7) (aBin fMod (aCall fInt (aCons (aVar 6) aNil)) (aC (.int 29)))) (aC (.int 3))))) (aIfS (aAnd (aTest (aBin (fEqv false) (aBin fMod (aCall fInt (aCons (aVar 6) aNil)) (aC (.int 4))) (aC (.int 1)))) (aTest (aBin fGt (aVar 4) (aC (.int 1))))) (aSet 5 (aLc (aItL (aVar 5)) [7] (.nm 7) aYes (aBin fDiv (aBin fAdd (aVar 7) (aBin fMod (aBin fDiv (aCall fInt (aCons (aVar 6) aNil)) (aC (.int 4))) (aC (.int 2)))) (aC (.int 2))))) aSkip))))

theorem mem_bd {vs : List Int} (h : In64 vs) : Bd vs := fun v hv => Nat.lt_of_le_of_lt (show v.natAbs ≤ 64 by have := h v hv; omega) (by decide)
theorem step0 {a0 a1 a2 a3 x7 x8 x9 x10 : Option AV} {kind pick : Int} {vs : List Int} (hv : In64 vs) (hl : vs.length ≤ 64) (M : Mem) : ∃ vs', In64 vs' ∧ vs'.length = vs.length ∧
    sI0 [a0, a1, a2, a3, some (.int kind), some (row vs), some (.int pick), x7, x8, x9, x10] M = .nx [a0, a1, a2, a3, some (.int kind), some (row vs'), some (.int pick), x7, x8, x9, x10] M := by
  by_cases hk : kind = 0
  · have h9 := mod_b (x := pick) (m := 9) (by decide)
    refine ⟨vs.map fun v => v % (2 + pick % 9), fun v hv' => ?_, List.length_map .., ?_⟩
    · obtain ⟨u, hu, rfl⟩ := List.mem_map.mp hv'
      have h1 := Int.emod_nonneg u (b := 2 + pick % 9) (by omega)
      have h2 := Int.emod_lt_of_pos u (b := 2 + pick % 9) (by omega)
      omega
    · unfold sI0
      walk_at "ev"
      rw [decide_eq_true hk]
      walk_at "ev"
      rw [itL_row]
      walk_at "ev"
      rw [lcL_map (g := AV.int) (h := fun v => AV.int (v % (2 + pick % 9))) (fun z _ => ⟨_, rfl, fun M => by
        walk_at "ev"
        rw [ev_mod (by decide)]
        walk_at "ev"
        rw [ev_mod (by omega)]⟩) [] (by rw [List.length_nil]; omega)]
      walk_at "ev"
      unfold row
      rw [List.map_map]
      rfl
  · refine ⟨vs, hv, rfl, ?_⟩
    unfold sI0
    walk_at "ev"
    rw [decide_eq_false hk]
    walk_at "ev"
theorem pick_4 {j : Int} (h : 0 ≤ j ∧ j ≤ 3) : ∃ c : Int, 1 ≤ c ∧ c ≤ 90 ∧ ∀ M, fIx (.lst [.int 1, .int 2, .int 4, .int 90]) (.int j) M = .ok (.int c) M := by
  have : j = 0 ∨ j = 1 ∨ j = 2 ∨ j = 3 := by omega
  rcases this with rfl | rfl | rfl | rfl
  · exact ⟨1, by decide, by decide, fun M => ev_ix_l (by decide) rfl⟩
  · exact ⟨2, by decide, by decide, fun M => ev_ix_l (by decide) rfl⟩
  · exact ⟨4, by decide, by decide, fun M => ev_ix_l (by decide) rfl⟩
  · exact ⟨90, by decide, by decide, fun M => ev_ix_l (by decide) rfl⟩
theorem step1 {l : Nat} {k : Int} {c0 : MO} {a1 a2 a3 x7 x8 x9 x10 : Option AV} {kind pick : Int} {vs : List Int} (hv : In64 vs) (hl : vs.length ≤ 64) {M : Mem} (hc0 : M[l]? = some c0) (hD : Drw k c0) (h0 : 0 ≤ k) (hk : k ≤ 999000) : ∃ vs' k' d', Bd vs' ∧ vs'.length = vs.length ∧ k ≤ k' ∧ k' ≤ k + 64 ∧ Drw k' d' ∧
    sI1 [some (.ptr l), a1, a2, a3, some (.int kind), some (row vs), some (.int pick), x7, x8, x9, x10] M = .nx [some (.ptr l), a1, a2, a3, some (.int kind), some (row vs'), some (.int pick), x7, x8, x9, x10] (M.set l d') := by
  have e17 : ∀ M, fPow (.int 10) (.int 17) M = .ok (.int (10 ^ 17)) M := fun M => ev_pow (by decide) (by decide) (by decide)
  have hss := set_same hc0
  by_cases h1 : kind = 1
  · have h5 := mod_b (x := pick) (m := 5) (by decide)
    refine ⟨vs.map fun v => (v - 7) * 10 ^ 17 + pick % 5, k, c0, fun v hv' => ?_, List.length_map .., by omega, by omega, hD, ?_⟩
    · obtain ⟨u, hu, rfl⟩ := List.mem_map.mp hv'
      have := hv u hu
      exact Nat.lt_of_le_of_lt (show ((u - 7) * 10 ^ 17 + pick % 5).natAbs ≤ 10 ^ 20 by omega) (by decide)
    · unfold sI1
      rw [hss]
      walk_at "ev"
      rw [decide_eq_true h1]
      walk_at "ev"
      rw [itL_row]
      walk_at "ev"
      rw [lcL_map (g := AV.int) (h := fun v => AV.int ((v - 7) * 10 ^ 17 + pick % 5)) (fun z hz => ⟨_, rfl, fun M => by
        have := hv z hz
        walk_at "ev"
        rw [e17]
        walk_at "ev"
        rw [ev_mul (Nat.lt_of_le_of_lt (show (z - 7).natAbs ≤ 100 by omega) (by decide)) (by decide)]
        walk_at "ev"
        rw [ev_mod (by decide)]
        walk_at "ev"⟩) [] (by rw [List.length_nil]; omega)]
      walk_at "ev"
      unfold row
      rw [List.map_map]
      rfl
  have r4 := mod_b (x := pick) (m := 4) (by decide)
  by_cases h6 : kind = 6 ∧ 0 < pick % 4
  · obtain ⟨h6, g6⟩ := h6
    have r44 := Int.emod_nonneg (pick / 4) (b := 4) (by decide)
    have r45 := Int.emod_lt_of_pos (pick / 4) (b := 4) (by decide)
    obtain ⟨c, c1, c90, ec⟩ := pick_4 (j := pick / 4 % 4) ⟨by omega, by omega⟩
    have em := fun (δ1 : Sl) (hδ : δ1 = [some (.ptr l), a1, a2, a3, some (.int kind), some (row vs), some (.int pick), x7, none, x9, x10]) => lcL_inv (t := .nm 8) (g := AV.int) (a := (aBin fMod (aCall fInt (aCons (aFn 1 F._law_next (aCons (aVar 0) aNil)) aNil)) (aBin fIx (aLst (aCons (aC (.int 1)) (aCons (aC (.int 2)) (aCons (aC (.int 4)) (aCons (aC (.int 90)) aNil))))) (aBin fMod (aBin fDiv (aCall fInt (aCons (aVar 6) aNil)) (aC (.int 4))) (aC (.int 4)))))) (δ := δ1)
      (fun i acc M2 => ∃ d ws, M2 = M.set l d ∧ acc = ws.map .int ∧ ws.length = i ∧ Bd ws ∧ Drw (k + i) d) (l := vs) (fun i z hz acc M2 ⟨d, ws, z1, z2, z3, z4, z5⟩ => by
        subst z1 z2 hδ
        have hi := (List.getElem?_eq_some_iff.mp hz).1
        obtain ⟨v, d', hD', v0, v1, e⟩ := F_law_next (l := l) (M := M.set l d) (set_get hc0) z5 (by omega) (by omega)
        rw [List.set_set] at e
        have q0 := Int.emod_nonneg v (b := c) (by omega)
        have q1 := Int.emod_lt_of_pos v (b := c) (by omega)
        refine ⟨_, rfl, .int (v % c), _, ?_, d', ws ++ [v % c], rfl, ?_, ?_, ?_, ?_⟩
        · walk_at "ev"
          rw [e]
          walk_at "ev"
          rw [ev_div (by decide) (by decide)]
          walk_at "ev"
          rw [ev_mod (by decide)]
          walk_at "ev"
          rw [ec]
          walk_at "ev"
          rw [ev_mod (by omega)]
        · rw [List.map_append]
          rfl
        · rw [List.length_append, List.length_singleton, z3]
        · intro u hu
          rcases List.mem_append.mp hu with q | q
          · exact z4 u q
          · rw [List.mem_singleton.mp q]
            exact Nat.lt_of_le_of_lt (show (v % c).natAbs ≤ 100 by omega) (by decide)
        · rw [show k + ((i + 1 : Nat) : Int) = k + (i : Int) + 1 by omega]
          exact hD') [] M (by rw [List.length_nil]; omega) ⟨c0, [], hss.symm, rfl, rfl, (fun _ h => absurd h List.not_mem_nil), by rw [show k + ((0 : Nat) : Int) = k by omega]; exact hD⟩
    obtain ⟨acc, M2, ez, d, ws, rfl, rfl, w1, w2, w3⟩ := em _ rfl
    refine ⟨ws, k + vs.length, d, w2, w1, by omega, by omega, w3, ?_⟩
    unfold sI1
    walk_at "ev"
    rw [decide_eq_false h1]
    walk_at "ev"
    rw [decide_eq_true h6]
    walk_at "ev"
    rw [ev_mod (by decide)]
    walk_at "ev"
    rw [decide_eq_true g6]
    walk_at "ev"
    rw [itL_row]
    walk_at "ev"
    rw [ez]
    walk_at "ev"
    rfl
  have hA : ∀ δ : Sl, δ = [some (.ptr l), a1, a2, a3, some (.int kind), some (row vs), some (.int pick), x7, x8, x9, x10] → sI1 δ M = (aIfS (aTest (aBin fGt (aBin fMod (aCall fInt (aCons (aVar 6) aNil)) (aC (.int 4))) (aC (.int 1)))) (aSet 5 (aLc (aItL (aVar 5)) [7] (.nm 7) aYes (aBin fPow (aBin fSub (aVar 7) (aBin fMod (aCall fInt (aCons (aVar 6) aNil)) (aC (.int 29)))) (aC (.int 3))))) (aIfS (aAnd (aTest (aBin (fEqv false) (aBin fMod (aCall fInt (aCons (aVar 6) aNil)) (aC (.int 4))) (aC (.int 1)))) (aTest (aBin fGt (aVar 4) (aC (.int 1))))) (aSet 5 (aLc (aItL (aVar 5)) [7] (.nm 7) aYes (aBin fDiv (aBin fAdd (aVar 7) (aBin fMod (aBin fDiv (aCall fInt (aCons (aVar 6) aNil)) (aC (.int 4))) (aC (.int 2)))) (aC (.int 2))))) aSkip)) δ M := fun δ hδ => by
    subst hδ
    unfold sI1
    rw [ev_ifS]
    walk_at "ev"
    rw [decide_eq_false h1]
    rw [ite_f, ev_ifS]
    by_cases h6' : kind = 6
    · walk_at "ev"
      rw [decide_eq_true h6', ev_mod (by decide)]
      walk_at "ev"
      rw [ev_mod (by decide)]
      walk_at "ev"
      rw [decide_eq_false fun z => h6 ⟨h6', z⟩]
      walk_at "ev"
      rw [ev_mod (by decide)]
      walk_at "ev"
    · walk_at "ev"
      rw [decide_eq_false h6']
      walk_at "ev"
  rw [hA _ rfl]
  have r29 := mod_b (x := pick) (m := 29) (by decide)
  by_cases h2 : 1 < pick % 4
  · refine ⟨vs.map fun v => (v - pick % 29) ^ 3, k, c0, fun v hv' => ?_, List.length_map .., by omega, by omega, hD, ?_⟩
    · obtain ⟨u, hu, rfl⟩ := List.mem_map.mp hv'
      have := hv u hu
      rw [Int.natAbs_pow]
      exact Nat.lt_of_le_of_lt (Nat.pow_le_pow_left (show (u - pick % 29).natAbs ≤ 100 by omega) 3) (by decide)
    · rw [hss]
      walk_at "ev"
      rw [ev_mod (by decide)]
      walk_at "ev"
      rw [decide_eq_true h2]
      walk_at "ev"
      rw [itL_row]
      walk_at "ev"
      rw [lcL_map (g := AV.int) (h := fun v => AV.int ((v - pick % 29) ^ 3)) (fun z hz => ⟨_, rfl, fun M => by
        have := hv z hz
        walk_at "ev"
        rw [ev_mod (by decide)]
        walk_at "ev"
        rw [ev_pow (by decide) (by decide) (Nat.le_trans (Nat.log2_le_self _) (show (z - pick % 29).natAbs ≤ 1000000 by omega))]
        rfl⟩) [] (by rw [List.length_nil]; omega)]
      walk_at "ev"
      unfold row
      rw [List.map_map]
      rfl
  by_cases h3 : pick % 4 = 1 ∧ 1 < kind
  · obtain ⟨h3, h4⟩ := h3
    have r2 := mod_b (x := pick / 4) (m := 2) (by decide)
    refine ⟨vs.map fun v => (v + pick / 4 % 2) / 2, k, c0, fun v hv' => ?_, List.length_map .., by omega, by omega, hD, ?_⟩
    · obtain ⟨u, hu, rfl⟩ := List.mem_map.mp hv'
      have := hv u hu
      exact Nat.lt_of_le_of_lt (show ((u + pick / 4 % 2) / 2).natAbs ≤ 100 by omega) (by decide)
    · rw [hss]
      walk_at "ev"
      rw [ev_mod (by decide)]
      walk_at "ev"
      rw [decide_eq_false h2]
      walk_at "ev"
      rw [ev_mod (by decide)]
      walk_at "ev"
      rw [decide_eq_true h3]
      walk_at "ev"
      rw [decide_eq_true h4]
      walk_at "ev"
      rw [itL_row]
      walk_at "ev"
      rw [lcL_map (g := AV.int) (h := fun v => AV.int ((v + pick / 4 % 2) / 2)) (fun z hz => ⟨_, rfl, fun M => by
        walk_at "ev"
        rw [ev_div (by decide) (by decide)]
        walk_at "ev"
        rw [ev_mod (by decide)]
        walk_at "ev"
        rw [ev_div (by decide) (by decide)]⟩) [] (by rw [List.length_nil]; omega)]
      walk_at "ev"
      unfold row
      rw [List.map_map]
      rfl
  · refine ⟨vs, k, c0, mem_bd hv, rfl, by omega, by omega, hD, ?_⟩
    rw [hss]
    walk_at "ev"
    rw [ev_mod (by decide)]
    walk_at "ev"
    rw [decide_eq_false h2]
    walk_at "ev"
    rw [ev_mod (by decide)]
    walk_at "ev"
    by_cases h3' : pick % 4 = 1
    · rw [decide_eq_true h3']
      walk_at "ev"
      rw [decide_eq_false fun z => h3 ⟨h3', z⟩]
      walk_at "ev"
    · rw [decide_eq_false h3']
      walk_at "ev"
end
end K01
namespace K01
open PySem PySem.Spec L2 Yk
noncomputable section
local macro_rules | `(tactic| walk_at "ev") => `(tactic| simp only [runF, outF_nx, outF_rt, outF_exc, isi_int_int, isi_int_bool, isi_int_list, isi_int_tuple, isi_bl_int, isi_bl_bool, isi_lst_list, isi_lst_int, isi_tup_tuple, ev_bin, ev_two, ev_b, ev_un, ev_var, ev_c, ev_test, ev_asBl, sel_t, sel_f, ev_and, ev_or, ev_not, ev_if, selV_t, selV_f, ev_andV, ev_orV, ev_notV, notV_ok, ev_chain, chain_ok, ch2_ok, ch3_ok, ev_nil, ev_cons, cons_ok, push_ok, ev_tup, ev_lst, ev_new, mkTup2, mkLst0, mkNew0, mkTup_ok, mkLst_ok, ev_frz, ev_call, ev_fn, fnV1, fnV2, fnV3, ev_fnK, fnK2_10, fnK1, ev_meth, ev_seq, seq_nx, seq_rt, seq_bk, seq_ct, ev_skip, ev_set, st_ok, ev_asg, asg2, ev_par, par2, par3, ev_expr, ex_ok, ev_ret, ret_ok, ev_ifS, ite_t, ite_f, ev_for, it_ok, ev_itL, itL_ok, ev_itR1, ev_itR2, ev_itE, itE_ok, ev_itZ, itZ_ok, ev_lc, ev_lcN, lc_ok, lcV_ok, lcVN_ok, wipeA, ev_add, ev_sub, ev_lt, ev_le, ev_gt, ev_ge, ev_neg, ev_eqI, ev_eqS, ev_int, ev_int_b, ev_min2, ev_len_l, ev_len_t, ev_noP, ev_part, part_ok, ev_slice, sl_ok, sl2_ok, sl3_lst, List.getElem?_cons_zero, List.getElem?_cons_succ, List.set_cons_zero, List.set_cons_succ, List.map_cons, List.map_nil, List.length_cons, List.length_nil, List.replicate_succ, List.replicate_zero, List.cons_append, List.nil_append, Nat.reduceAdd, Nat.reduceSub, Nat.reduceLeDiff, if_true, if_false, Bool.false_eq_true, reduceIte, Bool.not_true, Bool.not_false, decide_true, decide_false])
local macro_rules | `(tactic| walk_at "evh") => `(tactic| simp only [runF, outF_nx, outF_rt, outF_exc, isi_int_int, isi_int_bool, isi_int_list, isi_int_tuple, isi_bl_int, isi_bl_bool, isi_lst_list, isi_lst_int, isi_tup_tuple, ev_bin, ev_two, ev_b, ev_un, ev_var, ev_c, ev_test, ev_asBl, sel_t, sel_f, ev_and, ev_or, ev_not, ev_if, selV_t, selV_f, ev_andV, ev_orV, ev_notV, notV_ok, ev_chain, chain_ok, ch2_ok, ch3_ok, ev_nil, ev_cons, cons_ok, push_ok, ev_tup, ev_lst, ev_new, mkTup2, mkLst0, mkNew0, mkTup_ok, mkLst_ok, ev_frz, ev_call, ev_fn, fnV1, fnV2, fnV3, ev_fnK, fnK2_10, fnK1, ev_meth, ev_seq, seq_nx, seq_rt, seq_bk, seq_ct, ev_skip, ev_set, st_ok, ev_asg, asg2, ev_par, par2, par3, ev_expr, ex_ok, ev_ret, ret_ok, ev_ifS, ite_t, ite_f, ev_for, it_ok, ev_itL, itL_ok, ev_itR1, ev_itR2, ev_itE, itE_ok, ev_itZ, itZ_ok, ev_lc, ev_lcN, lc_ok, lcV_ok, lcVN_ok, wipeA, ev_add, ev_sub, ev_lt, ev_le, ev_gt, ev_ge, ev_neg, ev_eqI, ev_eqS, ev_int, ev_int_b, ev_min2, ev_len_l, ev_len_t, ev_noP, ev_part, part_ok, ev_slice, sl_ok, sl2_ok, sl3_lst, List.getElem?_cons_zero, List.getElem?_cons_succ, List.set_cons_zero, List.set_cons_succ, List.map_cons, List.map_nil, List.length_cons, List.length_nil, List.replicate_succ, List.replicate_zero, List.cons_append, List.nil_append, Nat.reduceAdd, Nat.reduceSub, Nat.reduceLeDiff, if_true, if_false, Bool.false_eq_true, reduceIte, Bool.not_true, Bool.not_false, decide_true, decide_false, *])
theorem row_sort {r : List Int} {M : Mem} : fSorted [row r] M = .ok (row (sortI r)) M := ev_sorted
theorem okT_sort {t : List (List Int)} {n : Nat} (h : OkT t n) : OkT (t.map sortI) n := by
  refine ⟨by rw [List.length_map]; exact h.r1, by rw [List.length_map]; exact h.r8, h.c1, h.c8, fun r hr => ?_, fun r hr v hv => ?_⟩
  · obtain ⟨q, hq, rfl⟩ := List.mem_map.mp hr
    rw [sortI_len]
    exact h.len q hq
  · obtain ⟨q, hq, rfl⟩ := List.mem_map.mp hr
    exact h.big q hq v ((sortI_perm q).mem_iff.mp hv)
theorem itL_tab {t : List (List Int)} {M : Mem} : itL (tab t) M = .ok (t.map row) M := rfl
def sTail : AS := (aSeq (aIfS (aTest (aBin (fEqv false) (aVar 4) (aC (.int 2)))) (aRet (aLc (aItL (aVar 9)) [10] (.nm 10) aYes (aCall fSorted (aCons (aVar 10) aNil)))) aSkip) (aSeq (aIfS (aTest (aChain fLt fLt (aC (.int 2)) (aVar 4) (aC (.int 6)))) (aRet (aFn 3 F._law_nearly (aCons (aVar 0) (aCons (aVar 9) (aCons (aVar 4) aNil))))) aSkip) (aRet (aVar 9))))
theorem tbl_eq : b__law_table = (aSeq (aSet 2 (aBin fAdd (aC (.int 1)) (aBin fMod (aCall fInt (aCons (aFn 1 F._law_next (aCons (aVar 0) aNil)) aNil)) (aVar 1)))) (aSeq (aSet 3 (aBin fAdd (aC (.int 1)) (aBin fMod (aCall fInt (aCons (aFn 1 F._law_next (aCons (aVar 0) aNil)) aNil)) (aVar 1)))) (aSeq (aSet 4 (aBin fMod (aCall fInt (aCons (aFn 1 F._law_next (aCons (aVar 0) aNil)) aNil)) (aC (.int 7)))) (aSeq (aSet 5 (aFn 2 F._law_order (aCons (aVar 0) (aCons (aBin fMul (aVar 2) (aVar 3)) aNil)))) (aSeq (aSet 6 (aCall fInt (aCons (aFn 1 F._law_next (aCons (aVar 0) aNil)) aNil))) (aSeq sI0 (aSeq sI1 (aSeq (aSet 9 (aLc (aItR1 (aCons (aVar 2) aNil)) [10] (.nm 10) aYes (aSlice (aVar 5) (aPart (aBin fMul (aVar 10) (aVar 3))) (aPart (aBin fAdd (aBin fMul (aVar 10) (aVar 3)) (aVar 3)))))) sTail)))))))) := rfl
theorem F_law_table {M : Mem} {l : Nat} {k most : Int} {c0 : MO} (hc0 : M[l]? = some c0) (hD : Drw k c0) (h0 : 0 ≤ k) (hk : k ≤ 990000) (hm : 1 ≤ most ∧ most ≤ 8) :
    ∃ t n k' d', OkT t n ∧ k ≤ k' ∧ k' ≤ k + 200 ∧ Drw k' d' ∧ F._law_table [.ptr l, .int most] M = .ok (tab t) (M.set l d') := by
  obtain ⟨v1, d1, hD1, p1, _, e1⟩ := F_law_next hc0 hD (by omega) (by omega)
  obtain ⟨v2, d2, hD2, p2, _, e2⟩ := F_law_next (M := M.set l d1) (set_get hc0) hD1 (by omega) (by omega)
  rw [List.set_set] at e2
  obtain ⟨v3, d3, hD3, p3, _, e3⟩ := F_law_next (M := M.set l d2) (set_get hc0) hD2 (by omega) (by omega)
  rw [List.set_set] at e3
  have a0 := Int.emod_nonneg v1 (b := most) (by omega)
  have a1 := Int.emod_lt_of_pos v1 (b := most) (by omega)
  have b0 := Int.emod_nonneg v2 (b := most) (by omega)
  have b1 := Int.emod_lt_of_pos v2 (b := most) (by omega)
  have k0 := Int.emod_nonneg v3 (b := 7) (by decide)
  have k1 := Int.emod_lt_of_pos v3 (b := 7) (by decide)
  obtain ⟨m, hm1⟩ : ∃ m : Nat, 1 + v1 % most = (m : Int) := ⟨(1 + v1 % most).toNat, by omega⟩
  obtain ⟨n, hn1⟩ : ∃ n : Nat, 1 + v2 % most = (n : Int) := ⟨(1 + v2 % most).toNat, by omega⟩
  have m1 : 1 ≤ m := by omega
  have m8 : m ≤ 8 := by omega
  have n1 : 1 ≤ n := by omega
  have n8 : n ≤ 8 := by omega
  have h64 : m * n ≤ 8 * 8 := Nat.mul_le_mul m8 n8
  obtain ⟨ns, d4, hD4, g1, g2, e4⟩ := F_law_order (M := M.set l d3) (n := m * n) (set_get hc0) hD3 (by omega) (by omega) (by omega)
  rw [List.set_set] at e4
  obtain ⟨v5, d5, hD5, p5, _, e5⟩ := F_law_next (M := M.set l d4) (set_get hc0) hD4 (by omega) (by omega)
  rw [List.set_set] at e5
  generalize hkind : v3 % 7 = kind at k0 k1
  obtain ⟨ws, w1, w2, e6⟩ := step0 (a0 := some (.ptr l)) (a1 := some (.int most)) (a2 := some (.int m)) (a3 := some (.int n)) (x7 := none) (x8 := none) (x9 := none) (x10 := none) (kind := kind) (pick := v5) g2 (by omega) (M.set l d5)
  obtain ⟨us, k7, d7, u1, u2, q1, q2, hD7, e7⟩ := step1 (M := M.set l d5) (c0 := d5) (l := l) (k := k + 1 + 1 + 1 + ((m * n : Nat) : Int) + 1) (a1 := some (.int most)) (a2 := some (.int m)) (a3 := some (.int n)) (x7 := none) (x8 := none) (x9 := none) (x10 := none) (kind := kind) (pick := v5) w1 (by omega) (set_get hc0) hD5 (by omega) (by omega)
  rw [List.set_set] at e7
  have hl : us.length = m * n := by omega
  have okt := cut_ok hl u1 m1 m8 n1 n8
  have hs9 : ∀ δ1 M2, δ1 = [some (.ptr l), some (.int most), some (.int m), some (.int n), some (.int kind), some (row us), some (.int v5), none, none, none, none] → lcL (.nm 10) aYes (aSlice (aVar 5) (aPart (aBin fMul (aVar 10) (aVar 3))) (aPart (aBin fAdd (aBin fMul (aVar 10) (aVar 3)) (aVar 3)))) δ1 (rngA 0 m) [] M2 = .ok (((List.range m).map fun i => (us.drop (i * n)).take n).map row) M2 := fun δ1 M2 hδ => by
    subst hδ
    unfold rngA
    rw [lcL_map (g := fun i : Nat => AV.int (0 + (i : Int))) (h := fun i => row ((us.drop (i * n)).take n)) (fun z hz => ⟨_, rfl, fun M => by
      have hz := List.mem_range.mp hz
      have : (z + 1) * n ≤ m * n := Nat.mul_le_mul_right n hz
      rw [Nat.succ_mul] at this
      walk_at "ev"
      rw [Int.zero_add, ev_mulb ⟨by omega, by omega⟩ ⟨by omega, by omega⟩]
      walk_at "ev"
      rw [ev_mulb ⟨by omega, by omega⟩ ⟨by omega, by omega⟩]
      walk_at "ev"
      rw [← Int.natCast_mul]
      unfold row
      rw [sl3_lst, cut_map, cut_nat (by omega)]⟩) [] (by rw [List.length_nil, List.length_range]; omega), List.map_map]
    rfl
  have pre : ∀ R : Res AV, outF (SRes.seq (.nx [some (.ptr l), some (.int most), some (.int m), some (.int n), some (.int kind), some (row us), some (.int v5), none, none, some (tab ((List.range m).map fun i => (us.drop (i * n)).take n)), none] (M.set l d7)) sTail) = R → runF 11 b__law_table [.ptr l, .int most] M = R := fun R hR => by
    rw [← hR, tbl_eq]
    walk_at "ev"
    rw [e1]
    walk_at "ev"
    rw [ev_mod (by omega)]
    walk_at "ev"
    rw [hm1, e2]
    walk_at "ev"
    rw [ev_mod (by omega)]
    walk_at "ev"
    rw [hn1, e3]
    walk_at "ev"
    rw [ev_mod (by decide), hkind]
    walk_at "ev"
    rw [ev_mulb ⟨by omega, by omega⟩ ⟨by omega, by omega⟩]
    walk_at "ev"
    rw [← Int.natCast_mul, e4]
    walk_at "ev"
    rw [e5]
    walk_at "ev"
    rw [e6]
    walk_at "ev"
    rw [e7]
    walk_at "ev"
    rw [itR1_nat (by omega)]
    walk_at "ev"
    rw [hs9 _ _ rfl]
    walk_at "ev"
    rfl
  generalize (List.range m).map (fun i => (us.drop (i * n)).take n) = t9 at okt pre
  have fin : ∀ t' k' d', OkT t' n → k7 ≤ k' → k' ≤ k7 + 20 → Drw k' d' → runF 11 b__law_table [.ptr l, .int most] M = .ok (tab t') (M.set l d') → ∃ t n k' d', OkT t n ∧ k ≤ k' ∧ k' ≤ k + 200 ∧ Drw k' d' ∧ F._law_table [.ptr l, .int most] M = .ok (tab t) (M.set l d') := fun t' k' d' f1 f2 f3 f4 f5 =>
    ⟨t', n, k', d', f1, by omega, by omega, f4, clean_ok (G := []) (M' := M.set l d') (by rw [List.append_nil]; exact f5) List.length_set (.set f4.cl) tab_cl⟩
  by_cases c2 : kind = 2
  · refine fin (t9.map sortI) k7 d7 (okT_sort okt) (by omega) (by omega) hD7 (pre _ ?_)
    unfold sTail
    walk_at "ev"
    rw [decide_eq_true c2]
    walk_at "ev"
    rw [itL_tab]
    walk_at "ev"
    rw [lcL_map (g := row) (h := fun r => row (sortI r)) (fun z _ => ⟨_, rfl, fun M => by
      walk_at "ev"
      rw [row_sort]⟩) [] (by rw [List.length_nil]; have := okt.r8; omega)]
    walk_at "ev"
    unfold tab
    rw [List.map_map]
    rfl
  · by_cases c3 : 3 ≤ kind ∧ kind ≤ 5
    · obtain ⟨t', k', d', f1, f2, f3, f4, f5⟩ := F_law_nearly (M := M.set l d7) okt (set_get hc0) hD7 (by omega) (by omega) c3
      rw [List.set_set] at f5
      refine fin t' k' d' f1 f2 f3 f4 (pre _ ?_)
      unfold sTail
      walk_at "ev"
      rw [decide_eq_false c2]
      walk_at "ev"
      rw [decide_eq_true (show 2 < kind by omega)]
      walk_at "ev"
      rw [decide_eq_true (show kind < 6 by omega)]
      walk_at "ev"
      rw [f5]
      walk_at "ev"
    · refine fin t9 k7 d7 okt (by omega) (by omega) hD7 (pre _ ?_)
      unfold sTail
      walk_at "ev"
      rw [decide_eq_false c2]
      walk_at "ev"
      by_cases c4 : 2 < kind
      · rw [decide_eq_true c4]
        walk_at "ev"
        rw [decide_eq_false (show ¬ kind < 6 by omega)]
        walk_at "ev"
      · rw [decide_eq_false c4]
        walk_at "ev"
end
end K01
namespace K01
open PySem PySem.Spec L2 Yk
noncomputable section
local macro_rules | `(tactic| walk_at "ev") => `(tactic| simp only [runF, outF_nx, outF_rt, outF_exc, isi_int_int, isi_int_bool, isi_int_list, isi_int_tuple, isi_bl_int, isi_bl_bool, isi_lst_list, isi_lst_int, isi_tup_tuple, ev_bin, ev_two, ev_b, ev_un, ev_var, ev_c, ev_test, ev_asBl, sel_t, sel_f, ev_and, ev_or, ev_not, ev_if, selV_t, selV_f, ev_andV, ev_orV, ev_notV, notV_ok, ev_chain, chain_ok, ch2_ok, ch3_ok, ev_nil, ev_cons, cons_ok, push_ok, ev_tup, ev_lst, ev_new, mkTup2, mkLst0, mkNew0, mkTup_ok, mkLst_ok, ev_frz, ev_call, ev_fn, fnV1, fnV2, fnV3, ev_fnK, fnK2_10, fnK1, ev_meth, ev_seq, seq_nx, seq_rt, seq_bk, seq_ct, ev_skip, ev_set, st_ok, ev_asg, asg2, ev_par, par2, par3, ev_expr, ex_ok, ev_ret, ret_ok, ev_ifS, ite_t, ite_f, ev_for, it_ok, ev_itL, itL_ok, ev_itR1, ev_itR2, ev_itE, itE_ok, ev_itZ, itZ_ok, ev_lc, ev_lcN, lc_ok, lcV_ok, lcVN_ok, wipeA, ev_add, ev_sub, ev_lt, ev_le, ev_gt, ev_ge, ev_neg, ev_eqI, ev_eqS, ev_int, ev_int_b, ev_min2, ev_len_l, ev_len_t, ev_noP, ev_part, part_ok, ev_slice, sl_ok, sl2_ok, sl3_lst, List.getElem?_cons_zero, List.getElem?_cons_succ, List.set_cons_zero, List.set_cons_succ, List.map_cons, List.map_nil, List.length_cons, List.length_nil, List.replicate_succ, List.replicate_zero, List.cons_append, List.nil_append, Nat.reduceAdd, Nat.reduceSub, Nat.reduceLeDiff, if_true, if_false, Bool.false_eq_true, reduceIte, Bool.not_true, Bool.not_false, decide_true, decide_false])
local macro_rules | `(tactic| walk_at "evh") => `(tactic| simp only [runF, outF_nx, outF_rt, outF_exc, isi_int_int, isi_int_bool, isi_int_list, isi_int_tuple, isi_bl_int, isi_bl_bool, isi_lst_list, isi_lst_int, isi_tup_tuple, ev_bin, ev_two, ev_b, ev_un, ev_var, ev_c, ev_test, ev_asBl, sel_t, sel_f, ev_and, ev_or, ev_not, ev_if, selV_t, selV_f, ev_andV, ev_orV, ev_notV, notV_ok, ev_chain, chain_ok, ch2_ok, ch3_ok, ev_nil, ev_cons, cons_ok, push_ok, ev_tup, ev_lst, ev_new, mkTup2, mkLst0, mkNew0, mkTup_ok, mkLst_ok, ev_frz, ev_call, ev_fn, fnV1, fnV2, fnV3, ev_fnK, fnK2_10, fnK1, ev_meth, ev_seq, seq_nx, seq_rt, seq_bk, seq_ct, ev_skip, ev_set, st_ok, ev_asg, asg2, ev_par, par2, par3, ev_expr, ex_ok, ev_ret, ret_ok, ev_ifS, ite_t, ite_f, ev_for, it_ok, ev_itL, itL_ok, ev_itR1, ev_itR2, ev_itE, itE_ok, ev_itZ, itZ_ok, ev_lc, ev_lcN, lc_ok, lcV_ok, lcVN_ok, wipeA, ev_add, ev_sub, ev_lt, ev_le, ev_gt, ev_ge, ev_neg, ev_eqI, ev_eqS, ev_int, ev_int_b, ev_min2, ev_len_l, ev_len_t, ev_noP, ev_part, part_ok, ev_slice, sl_ok, sl2_ok, sl3_lst, List.getElem?_cons_zero, List.getElem?_cons_succ, List.set_cons_zero, List.set_cons_succ, List.map_cons, List.map_nil, List.length_cons, List.length_nil, List.replicate_succ, List.replicate_zero, List.cons_append, List.nil_append, Nat.reduceAdd, Nat.reduceSub, Nat.reduceLeDiff, if_true, if_false, Bool.false_eq_true, reduceIte, Bool.not_true, Bool.not_false, decide_true, decide_false, *])
/-! the law -/
def bIn : AS := (aIfS (aNot (aTest (aFn 1 F._law_right (aCons (aFn 2 F._law_table (aCons (aVar 1) (aCons (aVar 3) aNil))) aNil)))) (aRet (aC (.bl false))) aSkip)
def bOut : AS := (aFor (aItL (aLst (aCons (aC (.int 8)) (aCons (aC (.int 4)) (aCons (aC (.int 3)) aNil))))) (.nm 3) bIn)
theorem in_loop {M : Mem} {l : Nat} {c0 : MO} {a0 a2 a3 a4 : Option AV} (hc0 : M[l]? = some c0) (hD : Drw 0 c0) : ∃ x d, bOut [a0, some (.ptr l), a2, a3, a4] M = .nx [a0, some (.ptr l), a2, x, a4] (M.set l d) := by
  obtain ⟨δ2, M2, e, x, d, k, rfl, rfl, _⟩ := forL_inv (t := .nm 3) (g := AV.int) (b := bIn) (fun i δ M2 => ∃ x d k, δ = [a0, some (.ptr l), a2, x, a4] ∧ M2 = M.set l d ∧ Drw k d ∧ 0 ≤ k ∧ k ≤ 200 * i) (l := [8, 4, 3]) (fun i z hz δ M2 ⟨x, d, k, z1, z2, z3, z4, z5⟩ => by
    subst z1 z2
    have hi := (List.getElem?_eq_some_iff.mp hz).1
    have hz3 : z = 8 ∨ z = 4 ∨ z = 3 := by
      have := List.mem_of_getElem? hz
      simpa using this
    have hi3 : i < 3 := hi
    obtain ⟨t, n, k', d', okt, q1, q2, hD', e⟩ := F_law_table (M := M.set l d) (l := l) (most := z) (set_get hc0) z3 z4 (by omega) (by omega)
    rw [List.set_set] at e
    refine ⟨_, rfl, [a0, some (.ptr l), a2, some (.int z), a4], M.set l d', ?_, some (.int z), d', k', rfl, rfl, hD', by omega, by omega⟩
    unfold bIn
    walk_at "ev"
    rw [e]
    walk_at "ev"
    rw [F_law_right okt]
    walk_at "ev") [a0, some (.ptr l), a2, a3, a4] M ⟨a3, c0, 0, rfl, (set_same hc0).symm, hD, by omega, by omega⟩
  refine ⟨x, d, ?_⟩
  unfold bOut
  walk_at "ev"
  exact e
theorem ptr_range {L c : Nat} : (List.range c).map (fun j => AV.ptr (L + j)) = (List.range c).map (fun j => AV.ptr (L + j)) := rfl
theorem out_loop {M G : Mem} {a0 a1 a2 a3 a4 : Option AV} (hG : ∀ c ∈ G, Drw 0 c) : ∃ x1 x3 G2, forL (.nm 1) bOut ((List.range G.length).map fun j => AV.ptr (M.length + j)) [a0, a1, a2, a3, a4] (M ++ G) = .nx [a0, x1, a2, x3, a4] (M ++ G2) := by
  obtain ⟨δ2, M2, e, x1, x3, G2, rfl, rfl, _⟩ := forL_inv (t := .nm 1) (g := fun j => AV.ptr (M.length + j)) (b := bOut) (fun i δ M2 => ∃ x1 x3 G2, δ = [a0, x1, a2, x3, a4] ∧ M2 = M ++ G2 ∧ G2.length = G.length ∧ ∀ j, i ≤ j → j < G.length → ∃ c, G2[j]? = some c ∧ Drw 0 c) (l := List.range G.length) (fun i z hz δ M2 ⟨x1, x3, G2, z1, z2, z3, z4⟩ => by
    subst z1 z2
    obtain ⟨hi1, hi2⟩ := List.getElem?_eq_some_iff.mp hz
    rw [List.length_range] at hi1
    rw [List.getElem_range] at hi2
    subst hi2
    obtain ⟨c, hc, hD⟩ := z4 i (Nat.le_refl i) hi1
    obtain ⟨x, d, e⟩ := in_loop (M := M ++ G2) (l := M.length + i) (a0 := a0) (a2 := a2) (a3 := x3) (a4 := a4) (at_n.trans hc) hD
    rw [set_n] at e
    refine ⟨_, rfl, _, _, e, some (.ptr (M.length + i)), x, G2.set i d, rfl, rfl, by rw [List.length_set, z3], fun j h1 h2 => ?_⟩
    obtain ⟨c2, hc2, hD2⟩ := z4 j (by omega) h2
    exact ⟨c2, by rw [List.getElem?_set_ne (by omega)]; exact hc2, hD2⟩) [a0, a1, a2, a3, a4] (M ++ G) ⟨a1, a3, G, rfl, rfl, rfl, fun j _ h => ⟨G[j], List.getElem?_eq_getElem h, hG _ (List.getElem_mem h)⟩⟩
  exact ⟨x1, x3, G2, e⟩
theorem far_ok : OkT [[8 * 10 ^ 19, -(8 * 10 ^ 19)]] 2 := ⟨by decide, by decide, by decide, by decide, by simp, fun r hr v hv => by
  rw [List.mem_singleton.mp hr] at hv
  rcases List.mem_cons.mp hv with e | e
  · rw [e]; decide
  · rw [List.mem_singleton.mp e]; decide⟩
theorem far_ok3 : OkT [[8 * 10 ^ 19], [0], [8 * 10 ^ 19]] 1 := ⟨by decide, by decide, by decide, by decide, by simp, fun r hr v hv => by
  simp only [List.mem_cons, List.not_mem_nil, or_false] at hr
  rcases hr with e | e | e <;> (subst e; rw [List.mem_singleton.mp hv]; decide)⟩
theorem one_ok : OkT [[5]] 1 := ⟨by decide, by decide, by decide, by decide, by simp, fun r hr v hv => by
  rw [List.mem_singleton.mp hr] at hv
  rw [List.mem_singleton.mp hv]
  decide⟩
theorem cut_6 {α : Type} {xs : List α} : (cutA xs none (some 6)).length ≤ 6 := by
  unfold cutA
  rw [show (6 : Int) = ((6 : Nat) : Int) from rfl, HT.sIx_nat, HT.sIx_none, List.length_take]
  omega
theorem F_law (ns : List Int) (M : Mem) : F.law [.scr ns] M = .ok (.bl true) M := by
  have h6 := cut_6 (xs := ns)
  generalize hcs : cutA ns none (some 6) = cs at h6
  obtain ⟨acc, M2, e1, G, rfl, rfl, g1, g2⟩ := lcL_inv (t := .nm 2) (g := AV.int) (a := (aFn 1 F._law_draws (aCons (aVar 2) aNil))) (δ := [some (.scr ns), none, none, none, none]) (fun i acc M2 => ∃ G, M2 = M ++ G ∧ acc = (List.range i).map (fun j => AV.ptr (M.length + j)) ∧ G.length = i ∧ ∀ c ∈ G, Drw 0 c) (l := cs ++ [0]) (fun i z hz acc M2 ⟨G, z1, z2, z3, z4⟩ => by
    subst z1 z2
    obtain ⟨d, hD, e⟩ := F_law_draws z (M ++ G)
    refine ⟨_, rfl, .ptr (M.length + i), M ++ (G ++ [d]), ?_, G ++ [d], rfl, by rw [List.range_succ, List.map_append]; rfl, by rw [List.length_append, z3]; rfl, fun c hc => ?_⟩
    · walk_at "ev"
      rw [e, List.length_append, z3, List.append_assoc]
    · rcases List.mem_append.mp hc with q | q
      · exact z4 c q
      · rw [List.mem_singleton.mp q]; exact hD) [] M (by rw [List.length_nil, List.length_append, List.length_singleton]; omega) ⟨[], by rw [List.append_nil], rfl, rfl, (fun _ h => absurd h List.not_mem_nil)⟩
  rw [← g1] at e1
  obtain ⟨x1, x3, G2, e2⟩ := out_loop (M := M) (G := G) (a0 := some (.scr ns)) (a1 := none) (a2 := none) (a3 := none) (a4 := none) g2
  refine clean_made (G := G2) ?_ rfl
  unfold b_law
  walk_at "ev"
  rw [sl3_scr, cut_map, hcs]
  walk_at "ev"
  have e3 := row_add (a := cs) (b := [0]) (M := M) (by simp; omega)
  unfold row at e3
  rw [List.map_cons, List.map_nil] at e3
  rw [e3]
  walk_at "ev"
  rw [e1]
  walk_at "ev"
  unfold bOut bIn at e2
  rw [e2]
  walk_at "ev"
  rw [ev_pow (by decide) (by decide) (by decide)]
  walk_at "ev"
  rw [ev_mulb ⟨by decide, by decide⟩ ⟨by decide, by decide⟩]
  have hfar : (8 : Int) * 10 ^ (19 : Int).toNat = 8 * 10 ^ 19 := rfl
  rw [hfar]
  have f1 : F._law_right [.lst [.lst [.int (8 * 10 ^ 19), .int (-(8 * 10 ^ 19))]]] (M ++ G2) = .ok (.bl true) (M ++ G2) := F_law_right far_ok _
  have f2 : F._law_right [.lst [.lst [.int (8 * 10 ^ 19)], .lst [.int 0], .lst [.int (8 * 10 ^ 19)]]] (M ++ G2) = .ok (.bl true) (M ++ G2) := F_law_right far_ok3 _
  have f3 : F.end [.lst [.lst [.int 5]], .int 5] (M ++ G2) = .ok (.tup [.int 0, .int 0]) (M ++ G2) := F_end one_ok 5 _
  have f4 : fEqv false (.tup [.int 0, .int 0]) (.tup [.int 0, .int 0]) (M ++ G2) = .ok (.bl true) (M ++ G2) := by rfl
  generalize (8 : Int) * 10 ^ 19 = far at f1 f2 ⊢
  walk_at "ev"
  rw [f1]
  walk_at "ev"
  rw [f2]
  walk_at "ev"
  rw [f3]
  walk_at "ev"
  rw [f4]
  walk_at "ev"
end
end K01
namespace K01
open PySem PySem.Spec L2 Yk PyProof.Rows
theorem all_mk {P : Program} {w : World} {K : PySem.W.Frag} {h : Heap} {mg : Str → Option Value} {fa f0 f1 f2 f3 f4 f5 f6 f7 f8 f9 f10 f11 f12 f13 f14 f15 f16 f17 f18 f19 : Addr} (X : K.In h) (G : h.Ns mainGlobals mg) (hfa : mg "law" = some (.ref fa))
    {od0 an0 : Option Addr} {sl0 : Array (Option Value)} {oc0 kV0 dc0 pm0 cd0 ct0 : Value}
    (a0 : PySem.W.nsIn K mainGlobals "is_whole" = some (some (.ref f0))) (l0 : K.lookup f0 = some ⟨oc0, od0, .func (PySem.W.fnOf "is_whole" "is_whole" (defArgs s_is_whole) (defBody s_is_whole) (defScope s_is_whole) .none kV0 dc0 pm0 an0 cd0 ct0), sl0⟩) (c0 : PySem.W.codeIn K cd0 "is_whole" = true) (k0 : PySem.W.keepIn K (.ref f0) = true)
    {od1 an1 : Option Addr} {sl1 : Array (Option Value)} {oc1 kV1 dc1 pm1 cd1 ct1 : Value}
    (a1 : PySem.W.nsIn K mainGlobals "way" = some (some (.ref f1))) (l1 : K.lookup f1 = some ⟨oc1, od1, .func (PySem.W.fnOf "way" "way" (defArgs s_way) (defBody s_way) (defScope s_way) .none kV1 dc1 pm1 an1 cd1 ct1), sl1⟩) (c1 : PySem.W.codeIn K cd1 "way" = true) (k1 : PySem.W.keepIn K (.ref f1) = true)
    {od2 an2 : Option Addr} {sl2 : Array (Option Value)} {oc2 kV2 dc2 pm2 cd2 ct2 : Value}
    (a2 : PySem.W.nsIn K mainGlobals "turned" = some (some (.ref f2))) (l2 : K.lookup f2 = some ⟨oc2, od2, .func (PySem.W.fnOf "turned" "turned" (defArgs s_turned) (defBody s_turned) (defScope s_turned) .none kV2 dc2 pm2 an2 cd2 ct2), sl2⟩) (c2 : PySem.W.codeIn K cd2 "turned" = true) (k2 : PySem.W.keepIn K (.ref f2) = true)
    {od3 an3 : Option Addr} {sl3 : Array (Option Value)} {oc3 kV3 dc3 pm3 cd3 ct3 : Value}
    (a3 : PySem.W.nsIn K mainGlobals "_law_draws" = some (some (.ref f3))) (l3 : K.lookup f3 = some ⟨oc3, od3, .func (PySem.W.fnOf "_law_draws" "_law_draws" (defArgs s__law_draws) (defBody s__law_draws) (defScope s__law_draws) .none kV3 dc3 pm3 an3 cd3 ct3), sl3⟩) (c3 : PySem.W.codeIn K cd3 "_law_draws" = true) (k3 : PySem.W.keepIn K (.ref f3) = true)
    {od4 an4 : Option Addr} {sl4 : Array (Option Value)} {oc4 kV4 dc4 pm4 cd4 ct4 : Value}
    (a4 : PySem.W.nsIn K mainGlobals "_law_next" = some (some (.ref f4))) (l4 : K.lookup f4 = some ⟨oc4, od4, .func (PySem.W.fnOf "_law_next" "_law_next" (defArgs s__law_next) (defBody s__law_next) (defScope s__law_next) .none kV4 dc4 pm4 an4 cd4 ct4), sl4⟩) (c4 : PySem.W.codeIn K cd4 "_law_next" = true) (k4 : PySem.W.keepIn K (.ref f4) = true)
    {od5 an5 : Option Addr} {sl5 : Array (Option Value)} {oc5 kV5 dc5 pm5 cd5 ct5 : Value}
    (a5 : PySem.W.nsIn K mainGlobals "_law_way" = some (some (.ref f5))) (l5 : K.lookup f5 = some ⟨oc5, od5, .func (PySem.W.fnOf "_law_way" "_law_way" (defArgs s__law_way) (defBody s__law_way) (defScope s__law_way) .none kV5 dc5 pm5 an5 cd5 ct5), sl5⟩) (c5 : PySem.W.codeIn K cd5 "_law_way" = true) (k5 : PySem.W.keepIn K (.ref f5) = true)
    {od6 an6 : Option Addr} {sl6 : Array (Option Value)} {oc6 kV6 dc6 pm6 cd6 ct6 : Value}
    (a6 : PySem.W.nsIn K mainGlobals "_law_keys" = some (some (.ref f6))) (l6 : K.lookup f6 = some ⟨oc6, od6, .func (PySem.W.fnOf "_law_keys" "_law_keys" (defArgs s__law_keys) (defBody s__law_keys) (defScope s__law_keys) .none kV6 dc6 pm6 an6 cd6 ct6), sl6⟩) (c6 : PySem.W.codeIn K cd6 "_law_keys" = true) (k6 : PySem.W.keepIn K (.ref f6) = true)
    {od7 an7 : Option Addr} {sl7 : Array (Option Value)} {oc7 kV7 dc7 pm7 cd7 ct7 : Value}
    (a7 : PySem.W.nsIn K mainGlobals "_law_way_up" = some (some (.ref f7))) (l7 : K.lookup f7 = some ⟨oc7, od7, .func (PySem.W.fnOf "_law_way_up" "_law_way_up" (defArgs s__law_way_up) (defBody s__law_way_up) (defScope s__law_way_up) .none kV7 dc7 pm7 an7 cd7 ct7), sl7⟩) (c7 : PySem.W.codeIn K cd7 "_law_way_up" = true) (k7 : PySem.W.keepIn K (.ref f7) = true)
    {od8 an8 : Option Addr} {sl8 : Array (Option Value)} {oc8 kV8 dc8 pm8 cd8 ct8 : Value}
    (a8 : PySem.W.nsIn K mainGlobals "is_row" = some (some (.ref f8))) (l8 : K.lookup f8 = some ⟨oc8, od8, .func (PySem.W.fnOf "is_row" "is_row" (defArgs s_is_row) (defBody s_is_row) (defScope s_is_row) .none kV8 dc8 pm8 an8 cd8 ct8), sl8⟩) (c8 : PySem.W.codeIn K cd8 "is_row" = true) (k8 : PySem.W.keepIn K (.ref f8) = true)
    {od9 an9 : Option Addr} {sl9 : Array (Option Value)} {oc9 kV9 dc9 pm9 cd9 ct9 : Value}
    (a9 : PySem.W.nsIn K mainGlobals "check_key" = some (some (.ref f9))) (l9 : K.lookup f9 = some ⟨oc9, od9, .func (PySem.W.fnOf "check_key" "check_key" (defArgs s_check_key) (defBody s_check_key) (defScope s_check_key) .none kV9 dc9 pm9 an9 cd9 ct9), sl9⟩) (c9 : PySem.W.codeIn K cd9 "check_key" = true) (k9 : PySem.W.keepIn K (.ref f9) = true)
    {od10 an10 : Option Addr} {sl10 : Array (Option Value)} {oc10 kV10 dc10 pm10 cd10 ct10 : Value}
    (a10 : PySem.W.nsIn K mainGlobals "_law_order" = some (some (.ref f10))) (l10 : K.lookup f10 = some ⟨oc10, od10, .func (PySem.W.fnOf "_law_order" "_law_order" (defArgs s__law_order) (defBody s__law_order) (defScope s__law_order) .none kV10 dc10 pm10 an10 cd10 ct10), sl10⟩) (c10 : PySem.W.codeIn K cd10 "_law_order" = true) (k10 : PySem.W.keepIn K (.ref f10) = true)
    {od11 an11 : Option Addr} {sl11 : Array (Option Value)} {oc11 kV11 dc11 pm11 cd11 ct11 : Value}
    (a11 : PySem.W.nsIn K mainGlobals "_law_nearly" = some (some (.ref f11))) (l11 : K.lookup f11 = some ⟨oc11, od11, .func (PySem.W.fnOf "_law_nearly" "_law_nearly" (defArgs s__law_nearly) (defBody s__law_nearly) (defScope s__law_nearly) .none kV11 dc11 pm11 an11 cd11 ct11), sl11⟩) (c11 : PySem.W.codeIn K cd11 "_law_nearly" = true) (k11 : PySem.W.keepIn K (.ref f11) = true)
    {od12 an12 : Option Addr} {sl12 : Array (Option Value)} {oc12 kV12 dc12 pm12 cd12 ct12 : Value}
    (a12 : PySem.W.nsIn K mainGlobals "check_table" = some (some (.ref f12))) (l12 : K.lookup f12 = some ⟨oc12, od12, .func (PySem.W.fnOf "check_table" "check_table" (defArgs s_check_table) (defBody s_check_table) (defScope s_check_table) .none kV12 dc12 pm12 an12 cd12 ct12), sl12⟩) (c12 : PySem.W.codeIn K cd12 "check_table" = true) (k12 : PySem.W.keepIn K (.ref f12) = true)
    {od13 an13 : Option Addr} {sl13 : Array (Option Value)} {oc13 kV13 dc13 pm13 cd13 ct13 : Value}
    (a13 : PySem.W.nsIn K mainGlobals "_law_table" = some (some (.ref f13))) (l13 : K.lookup f13 = some ⟨oc13, od13, .func (PySem.W.fnOf "_law_table" "_law_table" (defArgs s__law_table) (defBody s__law_table) (defScope s__law_table) .none kV13 dc13 pm13 an13 cd13 ct13), sl13⟩) (c13 : PySem.W.codeIn K cd13 "_law_table" = true) (k13 : PySem.W.keepIn K (.ref f13) = true)
    {od14 an14 : Option Addr} {sl14 : Array (Option Value)} {oc14 kV14 dc14 pm14 cd14 ct14 : Value}
    (a14 : PySem.W.nsIn K mainGlobals "path" = some (some (.ref f14))) (l14 : K.lookup f14 = some ⟨oc14, od14, .func (PySem.W.fnOf "path" "path" (defArgs s_path) (defBody s_path) (defScope s_path) .none kV14 dc14 pm14 an14 cd14 ct14), sl14⟩) (c14 : PySem.W.codeIn K cd14 "path" = true) (k14 : PySem.W.keepIn K (.ref f14) = true)
    {od15 an15 : Option Addr} {sl15 : Array (Option Value)} {oc15 kV15 dc15 pm15 cd15 ct15 : Value}
    (a15 : PySem.W.nsIn K mainGlobals "end" = some (some (.ref f15))) (l15 : K.lookup f15 = some ⟨oc15, od15, .func (PySem.W.fnOf "end" "end" (defArgs s_end) (defBody s_end) (defScope s_end) .none kV15 dc15 pm15 an15 cd15 ct15), sl15⟩) (c15 : PySem.W.codeIn K cd15 "end" = true) (k15 : PySem.W.keepIn K (.ref f15) = true)
    {od16 an16 : Option Addr} {sl16 : Array (Option Value)} {oc16 kV16 dc16 pm16 cd16 ct16 : Value}
    (a16 : PySem.W.nsIn K mainGlobals "path_from_below" = some (some (.ref f16))) (l16 : K.lookup f16 = some ⟨oc16, od16, .func (PySem.W.fnOf "path_from_below" "path_from_below" (defArgs s_path_from_below) (defBody s_path_from_below) (defScope s_path_from_below) .none kV16 dc16 pm16 an16 cd16 ct16), sl16⟩) (c16 : PySem.W.codeIn K cd16 "path_from_below" = true) (k16 : PySem.W.keepIn K (.ref f16) = true)
    {od17 an17 : Option Addr} {sl17 : Array (Option Value)} {oc17 kV17 dc17 pm17 cd17 ct17 : Value}
    (a17 : PySem.W.nsIn K mainGlobals "end_from_below" = some (some (.ref f17))) (l17 : K.lookup f17 = some ⟨oc17, od17, .func (PySem.W.fnOf "end_from_below" "end_from_below" (defArgs s_end_from_below) (defBody s_end_from_below) (defScope s_end_from_below) .none kV17 dc17 pm17 an17 cd17 ct17), sl17⟩) (c17 : PySem.W.codeIn K cd17 "end_from_below" = true) (k17 : PySem.W.keepIn K (.ref f17) = true)
    {od18 an18 : Option Addr} {sl18 : Array (Option Value)} {oc18 kV18 dc18 pm18 cd18 ct18 : Value}
    (a18 : PySem.W.nsIn K mainGlobals "_law_right" = some (some (.ref f18))) (l18 : K.lookup f18 = some ⟨oc18, od18, .func (PySem.W.fnOf "_law_right" "_law_right" (defArgs s__law_right) (defBody s__law_right) (defScope s__law_right) .none kV18 dc18 pm18 an18 cd18 ct18), sl18⟩) (c18 : PySem.W.codeIn K cd18 "_law_right" = true) (k18 : PySem.W.keepIn K (.ref f18) = true)
    {od19 an19 : Option Addr} {sl19 : Array (Option Value)} {oc19 kV19 dc19 pm19 cd19 ct19 : Value}
    (a19 : PySem.W.nsIn K mainGlobals "law" = some (some (.ref f19))) (l19 : K.lookup f19 = some ⟨oc19, od19, .func (PySem.W.fnOf "law" "law" (defArgs s_law) (defBody s_law) (defScope s_law) .none kV19 dc19 pm19 an19 cd19 ct19), sl19⟩) (c19 : PySem.W.codeIn K cd19 "law" = true) (k19 : PySem.W.keepIn K (.ref f19) = true)
    (z_all : PySem.W.nsIn K mainGlobals "all" = some none)
    (z_bool : PySem.W.nsIn K mainGlobals "bool" = some none)
    (z_enumerate : PySem.W.nsIn K mainGlobals "enumerate" = some none)
    (z_int : PySem.W.nsIn K mainGlobals "int" = some none)
    (z_isinstance : PySem.W.nsIn K mainGlobals "isinstance" = some none)
    (z_len : PySem.W.nsIn K mainGlobals "len" = some none)
    (z_list : PySem.W.nsIn K mainGlobals "list" = some none)
    (z_min : PySem.W.nsIn K mainGlobals "min" = some none)
    (z_range : PySem.W.nsIn K mainGlobals "range" = some none)
    (z_repr : PySem.W.nsIn K mainGlobals "repr" = some none)
    (z_set : PySem.W.nsIn K mainGlobals "set" = some none)
    (z_sorted : PySem.W.nsIn K mainGlobals "sorted" = some none)
    (z_sum : PySem.W.nsIn K mainGlobals "sum" = some none)
    (z_zip : PySem.W.nsIn K mainGlobals "zip" = some none)
    {t_MOST_COLUMNS : Tok} (z_MOST_COLUMNS : PySem.W.nsIn K mainGlobals "MOST_COLUMNS" = some (some (Value.int 8 t_MOST_COLUMNS)))
    {t_MOST_ROWS : Tok} (z_MOST_ROWS : PySem.W.nsIn K mainGlobals "MOST_ROWS" = some (some (Value.int 8 t_MOST_ROWS)))
    : ∃ (fd : FuncData) (S : Sy), K = S.K ∧ (∀ (s : Shared) (u : Value), BindsTo s fd ⟨[u], []⟩ [("_law_script", u)]) ∧ ∀ base : Heap, K.In base → base.Ns mainGlobals mg → FnG P w K mg base 6 fa fd ["_law_script"] (spec S 1 F.law) := by
  have e := hfa.symm.trans (PySem.W.mg_of X G a19)
  cases e
  have B : Bl mg := { b_all := PySem.W.mg_none_of X G z_all, b_bool := PySem.W.mg_none_of X G z_bool, b_enumerate := PySem.W.mg_none_of X G z_enumerate, b_int := PySem.W.mg_none_of X G z_int, b_isinstance := PySem.W.mg_none_of X G z_isinstance, b_len := PySem.W.mg_none_of X G z_len, b_list := PySem.W.mg_none_of X G z_list, b_min := PySem.W.mg_none_of X G z_min, b_range := PySem.W.mg_none_of X G z_range, b_repr := PySem.W.mg_none_of X G z_repr, b_set := PySem.W.mg_none_of X G z_set, b_sorted := PySem.W.mg_none_of X G z_sorted, b_sum := PySem.W.mg_none_of X G z_sum, b_zip := PySem.W.mg_none_of X G z_zip, c_MOST_COLUMNS := ⟨_, PySem.W.mg_of X G z_MOST_COLUMNS⟩, c_MOST_ROWS := ⟨_, PySem.W.mg_of X G z_MOST_ROWS⟩ }
  refine ⟨PySem.W.fnOf "law" "law" (defArgs s_law) (defBody s_law) (defScope s_law) .none kV19 dc19 pm19 an19 cd19 ct19, ⟨K, fun _ => 0, fun _ => none⟩, rfl, fun s u => .of_eq rfl, fun base _ _ => ?_⟩
  have F_0 := fun_mk (st := s_is_whole) l0 c0 k0
  have o_is_whole : FnG P w K mg base 1 f0 _ ["thing"] (spec ⟨K, fun _ => 0, fun _ => none⟩ 1 F.is_whole) := ok_is_whole F_0 rfl B 
  have b_0 := F_0.binds (ps := ["thing"]) fun _ _ _ _ _ _ us hl => match us, hl with | [_], _ => rfl
  have d_is_whole : Def P w K mg base ⟨K, fun _ => 0, fun _ => none⟩ "is_whole" 1 1 F.is_whole := ⟨_, _, _, PySem.W.mg_of X G a0, k0, b_0, o_is_whole⟩
  have F_1 := fun_mk (st := s_way) l1 c1 k1
  have o_way : FnG P w K mg base 1 f1 _ ["table", "key"] (spec ⟨K, fun _ => 0, fun _ => none⟩ 2 F.way) := ok_way F_1 rfl B 
  have b_1 := F_1.binds (ps := ["table", "key"]) fun _ _ _ _ _ _ us hl => match us, hl with | [_, _], _ => rfl
  have d_way : Def P w K mg base ⟨K, fun _ => 0, fun _ => none⟩ "way" 1 2 F.way := ⟨_, _, _, PySem.W.mg_of X G a1, k1, b_1, o_way⟩
  have F_2 := fun_mk (st := s_turned) l2 c2 k2
  have o_turned : FnG P w K mg base 1 f2 _ ["table"] (spec ⟨K, fun _ => 0, fun _ => none⟩ 1 F.turned) := ok_turned F_2 rfl B 
  have b_2 := F_2.binds (ps := ["table"]) fun _ _ _ _ _ _ us hl => match us, hl with | [_], _ => rfl
  have d_turned : Def P w K mg base ⟨K, fun _ => 0, fun _ => none⟩ "turned" 1 1 F.turned := ⟨_, _, _, PySem.W.mg_of X G a2, k2, b_2, o_turned⟩
  have F_3 := fun_mk (st := s__law_draws) l3 c3 k3
  have o__law_draws : FnG P w K mg base 1 f3 _ ["_law_cell"] (spec ⟨K, fun _ => 0, fun _ => none⟩ 1 F._law_draws) := ok__law_draws F_3 rfl B 
  have b_3 := F_3.binds (ps := ["_law_cell"]) fun _ _ _ _ _ _ us hl => match us, hl with | [_], _ => rfl
  have d__law_draws : Def P w K mg base ⟨K, fun _ => 0, fun _ => none⟩ "_law_draws" 1 1 F._law_draws := ⟨_, _, _, PySem.W.mg_of X G a3, k3, b_3, o__law_draws⟩
  have F_4 := fun_mk (st := s__law_next) l4 c4 k4
  have o__law_next : FnG P w K mg base 1 f4 _ ["_law_draws_here"] (spec ⟨K, fun _ => 0, fun _ => none⟩ 1 F._law_next) := ok__law_next F_4 rfl B 
  have b_4 := F_4.binds (ps := ["_law_draws_here"]) fun _ _ _ _ _ _ us hl => match us, hl with | [_], _ => rfl
  have d__law_next : Def P w K mg base ⟨K, fun _ => 0, fun _ => none⟩ "_law_next" 1 1 F._law_next := ⟨_, _, _, PySem.W.mg_of X G a4, k4, b_4, o__law_next⟩
  have F_5 := fun_mk (st := s__law_way) l5 c5 k5
  have o__law_way : FnG P w K mg base 1 f5 _ ["_law_net", "_law_a_key"] (spec ⟨K, fun _ => 0, fun _ => none⟩ 2 F._law_way) := ok__law_way F_5 rfl B 
  have b_5 := F_5.binds (ps := ["_law_net", "_law_a_key"]) fun _ _ _ _ _ _ us hl => match us, hl with | [_, _], _ => rfl
  have d__law_way : Def P w K mg base ⟨K, fun _ => 0, fun _ => none⟩ "_law_way" 1 2 F._law_way := ⟨_, _, _, PySem.W.mg_of X G a5, k5, b_5, o__law_way⟩
  have F_6 := fun_mk (st := s__law_keys) l6 c6 k6
  have o__law_keys : FnG P w K mg base 1 f6 _ ["_law_net"] (spec ⟨K, fun _ => 0, fun _ => none⟩ 1 F._law_keys) := ok__law_keys F_6 rfl B 
  have b_6 := F_6.binds (ps := ["_law_net"]) fun _ _ _ _ _ _ us hl => match us, hl with | [_], _ => rfl
  have d__law_keys : Def P w K mg base ⟨K, fun _ => 0, fun _ => none⟩ "_law_keys" 1 1 F._law_keys := ⟨_, _, _, PySem.W.mg_of X G a6, k6, b_6, o__law_keys⟩
  have F_7 := fun_mk (st := s__law_way_up) l7 c7 k7
  have o__law_way_up : FnG P w K mg base 1 f7 _ ["_law_net", "_law_a_key"] (spec ⟨K, fun _ => 0, fun _ => none⟩ 2 F._law_way_up) := ok__law_way_up F_7 rfl B 
  have b_7 := F_7.binds (ps := ["_law_net", "_law_a_key"]) fun _ _ _ _ _ _ us hl => match us, hl with | [_, _], _ => rfl
  have d__law_way_up : Def P w K mg base ⟨K, fun _ => 0, fun _ => none⟩ "_law_way_up" 1 2 F._law_way_up := ⟨_, _, _, PySem.W.mg_of X G a7, k7, b_7, o__law_way_up⟩
  have F_8 := fun_mk (st := s_is_row) l8 c8 k8
  have o_is_row : FnG P w K mg base 2 f8 _ ["thing", "size"] (spec ⟨K, fun _ => 0, fun _ => none⟩ 2 F.is_row) := ok_is_row F_8 rfl B d_is_whole
  have b_8 := F_8.binds (ps := ["thing", "size"]) fun _ _ _ _ _ _ us hl => match us, hl with | [_, _], _ => rfl
  have d_is_row : Def P w K mg base ⟨K, fun _ => 0, fun _ => none⟩ "is_row" 2 2 F.is_row := ⟨_, _, _, PySem.W.mg_of X G a8, k8, b_8, o_is_row⟩
  have F_9 := fun_mk (st := s_check_key) l9 c9 k9
  have o_check_key : FnG P w K mg base 2 f9 _ ["key"] (spec ⟨K, fun _ => 0, fun _ => none⟩ 1 F.check_key) := ok_check_key F_9 rfl B d_is_whole
  have b_9 := F_9.binds (ps := ["key"]) fun _ _ _ _ _ _ us hl => match us, hl with | [_], _ => rfl
  have d_check_key : Def P w K mg base ⟨K, fun _ => 0, fun _ => none⟩ "check_key" 2 1 F.check_key := ⟨_, _, _, PySem.W.mg_of X G a9, k9, b_9, o_check_key⟩
  have F_10 := fun_mk (st := s__law_order) l10 c10 k10
  have o__law_order : FnG P w K mg base 2 f10 _ ["_law_draws_here", "_law_size"] (spec ⟨K, fun _ => 0, fun _ => none⟩ 2 F._law_order) := ok__law_order F_10 rfl B d__law_next
  have b_10 := F_10.binds (ps := ["_law_draws_here", "_law_size"]) fun _ _ _ _ _ _ us hl => match us, hl with | [_, _], _ => rfl
  have d__law_order : Def P w K mg base ⟨K, fun _ => 0, fun _ => none⟩ "_law_order" 2 2 F._law_order := ⟨_, _, _, PySem.W.mg_of X G a10, k10, b_10, o__law_order⟩
  have F_11 := fun_mk (st := s__law_nearly) l11 c11 k11
  have o__law_nearly : FnG P w K mg base 2 f11 _ ["_law_draws_here", "_law_some", "_law_kind"] (spec ⟨K, fun _ => 0, fun _ => none⟩ 3 F._law_nearly) := ok__law_nearly F_11 rfl B d__law_next
  have b_11 := F_11.binds (ps := ["_law_draws_here", "_law_some", "_law_kind"]) fun _ _ _ _ _ _ us hl => match us, hl with | [_, _, _], _ => rfl
  have d__law_nearly : Def P w K mg base ⟨K, fun _ => 0, fun _ => none⟩ "_law_nearly" 2 3 F._law_nearly := ⟨_, _, _, PySem.W.mg_of X G a11, k11, b_11, o__law_nearly⟩
  have F_12 := fun_mk (st := s_check_table) l12 c12 k12
  have o_check_table : FnG P w K mg base 3 f12 _ ["table"] (spec ⟨K, fun _ => 0, fun _ => none⟩ 1 F.check_table) := ok_check_table F_12 rfl B d_is_row
  have b_12 := F_12.binds (ps := ["table"]) fun _ _ _ _ _ _ us hl => match us, hl with | [_], _ => rfl
  have d_check_table : Def P w K mg base ⟨K, fun _ => 0, fun _ => none⟩ "check_table" 3 1 F.check_table := ⟨_, _, _, PySem.W.mg_of X G a12, k12, b_12, o_check_table⟩
  have F_13 := fun_mk (st := s__law_table) l13 c13 k13
  have o__law_table : FnG P w K mg base 3 f13 _ ["_law_draws_here", "_law_most"] (spec ⟨K, fun _ => 0, fun _ => none⟩ 2 F._law_table) := ok__law_table F_13 rfl B d__law_nearly d__law_next d__law_order
  have b_13 := F_13.binds (ps := ["_law_draws_here", "_law_most"]) fun _ _ _ _ _ _ us hl => match us, hl with | [_, _], _ => rfl
  have d__law_table : Def P w K mg base ⟨K, fun _ => 0, fun _ => none⟩ "_law_table" 3 2 F._law_table := ⟨_, _, _, PySem.W.mg_of X G a13, k13, b_13, o__law_table⟩
  have F_14 := fun_mk (st := s_path) l14 c14 k14
  have o_path : FnG P w K mg base 4 f14 _ ["table", "key"] (spec ⟨K, fun _ => 0, fun _ => none⟩ 2 F.path) := ok_path F_14 rfl B d_check_key d_check_table d_way
  have b_14 := F_14.binds (ps := ["table", "key"]) fun _ _ _ _ _ _ us hl => match us, hl with | [_, _], _ => rfl
  have d_path : Def P w K mg base ⟨K, fun _ => 0, fun _ => none⟩ "path" 4 2 F.path := ⟨_, _, _, PySem.W.mg_of X G a14, k14, b_14, o_path⟩
  have F_15 := fun_mk (st := s_end) l15 c15 k15
  have o_end : FnG P w K mg base 4 f15 _ ["table", "key"] (spec ⟨K, fun _ => 0, fun _ => none⟩ 2 F.end) := ok_end F_15 rfl B d_check_key d_check_table d_way
  have b_15 := F_15.binds (ps := ["table", "key"]) fun _ _ _ _ _ _ us hl => match us, hl with | [_, _], _ => rfl
  have d_end : Def P w K mg base ⟨K, fun _ => 0, fun _ => none⟩ "end" 4 2 F.end := ⟨_, _, _, PySem.W.mg_of X G a15, k15, b_15, o_end⟩
  have F_16 := fun_mk (st := s_path_from_below) l16 c16 k16
  have o_path_from_below : FnG P w K mg base 4 f16 _ ["table", "key"] (spec ⟨K, fun _ => 0, fun _ => none⟩ 2 F.path_from_below) := ok_path_from_below F_16 rfl B d_check_key d_check_table d_turned d_way
  have b_16 := F_16.binds (ps := ["table", "key"]) fun _ _ _ _ _ _ us hl => match us, hl with | [_, _], _ => rfl
  have d_path_from_below : Def P w K mg base ⟨K, fun _ => 0, fun _ => none⟩ "path_from_below" 4 2 F.path_from_below := ⟨_, _, _, PySem.W.mg_of X G a16, k16, b_16, o_path_from_below⟩
  have F_17 := fun_mk (st := s_end_from_below) l17 c17 k17
  have o_end_from_below : FnG P w K mg base 4 f17 _ ["table", "key"] (spec ⟨K, fun _ => 0, fun _ => none⟩ 2 F.end_from_below) := ok_end_from_below F_17 rfl B d_check_key d_check_table d_turned d_way
  have b_17 := F_17.binds (ps := ["table", "key"]) fun _ _ _ _ _ _ us hl => match us, hl with | [_, _], _ => rfl
  have d_end_from_below : Def P w K mg base ⟨K, fun _ => 0, fun _ => none⟩ "end_from_below" 4 2 F.end_from_below := ⟨_, _, _, PySem.W.mg_of X G a17, k17, b_17, o_end_from_below⟩
  have k_end_1_0 : DefK P w K mg base ⟨K, fun _ => 0, fun _ => none⟩ "end" 4 2 F.end ["key", "table"] [1, 0] := ⟨_, _, ["table", "key"], PySem.W.mg_of X G a15, k15, (fun s ws _ hl => match ws, hl with | [_, _], _ => .of_eq rfl), rfl, o_end⟩
  have k_end_from_below_1_0 : DefK P w K mg base ⟨K, fun _ => 0, fun _ => none⟩ "end_from_below" 4 2 F.end_from_below ["key", "table"] [1, 0] := ⟨_, _, ["table", "key"], PySem.W.mg_of X G a17, k17, (fun s ws _ hl => match ws, hl with | [_, _], _ => .of_eq rfl), rfl, o_end_from_below⟩
  have k_path_1_0 : DefK P w K mg base ⟨K, fun _ => 0, fun _ => none⟩ "path" 4 2 F.path ["key", "table"] [1, 0] := ⟨_, _, ["table", "key"], PySem.W.mg_of X G a14, k14, (fun s ws _ hl => match ws, hl with | [_, _], _ => .of_eq rfl), rfl, o_path⟩
  have k_path_from_below_1_0 : DefK P w K mg base ⟨K, fun _ => 0, fun _ => none⟩ "path_from_below" 4 2 F.path_from_below ["key", "table"] [1, 0] := ⟨_, _, ["table", "key"], PySem.W.mg_of X G a16, k16, (fun s ws _ hl => match ws, hl with | [_, _], _ => .of_eq rfl), rfl, o_path_from_below⟩
  have F_18 := fun_mk (st := s__law_right) l18 c18 k18
  have o__law_right : FnG P w K mg base 5 f18 _ ["_law_net"] (spec ⟨K, fun _ => 0, fun _ => none⟩ 1 F._law_right) := ok__law_right F_18 rfl B d__law_keys d__law_way d__law_way_up d_end d_end_from_below d_path d_path_from_below k_end_1_0 k_end_from_below_1_0 k_path_1_0 k_path_from_below_1_0
  have b_18 := F_18.binds (ps := ["_law_net"]) fun _ _ _ _ _ _ us hl => match us, hl with | [_], _ => rfl
  have d__law_right : Def P w K mg base ⟨K, fun _ => 0, fun _ => none⟩ "_law_right" 5 1 F._law_right := ⟨_, _, _, PySem.W.mg_of X G a18, k18, b_18, o__law_right⟩
  have F_19 := fun_mk (st := s_law) l19 c19 k19
  have o_law : FnG P w K mg base 6 fa _ ["_law_script"] (spec ⟨K, fun _ => 0, fun _ => none⟩ 1 F.law) := ok_law F_19 rfl B d__law_draws d__law_right d__law_table d_end
  exact o_law
end K01
open PySem PySem.W PyProof.Rows
set_option maxHeartbeats 0 in
theorem PySem.Challenge.cw_halftables_k01_paths_and_ends_holds : PySem.Challenge.rw_halftables_k01_paths_and_ends.Holds := by
  w_on; o_law; k_head; (case hw => w_witness2)
  k_fill
  refine Yk.walk_y (l := PySem.Challenge.rw_halftables_k01_paths_and_ends) (k := 6) (x := "_law_script") (fn := K01.F.law) rfl (by decide) rfl (Yk.rg_top ⟨rfl, by decide, by decide⟩) (fun w h Y => PySem.W.kIn_of Y) ?F (fun ns _ => K01.F_law ns [])
  case F =>
    intro w mg fa h KX G hmg
    refine' K01.all_mk KX G hmg ?a0 ?l0 ?c0 ?k0 ?a1 ?l1 ?c1 ?k1 ?a2 ?l2 ?c2 ?k2 ?a3 ?l3 ?c3 ?k3 ?a4 ?l4 ?c4 ?k4 ?a5 ?l5 ?c5 ?k5 ?a6 ?l6 ?c6 ?k6 ?a7 ?l7 ?c7 ?k7 ?a8 ?l8 ?c8 ?k8 ?a9 ?l9 ?c9 ?k9 ?a10 ?l10 ?c10 ?k10 ?a11 ?l11 ?c11 ?k11 ?a12 ?l12 ?c12 ?k12 ?a13 ?l13 ?c13 ?k13 ?a14 ?l14 ?c14 ?k14 ?a15 ?l15 ?c15 ?k15 ?a16 ?l16 ?c16 ?k16 ?a17 ?l17 ?c17 ?k17 ?a18 ?l18 ?c18 ?k18 ?a19 ?l19 ?c19 ?k19 ?z_all ?z_bool ?z_enumerate ?z_int ?z_isinstance ?z_len ?z_list ?z_min ?z_range ?z_repr ?z_set ?z_sorted ?z_sum ?z_zip ?z_MOST_COLUMNS ?z_MOST_ROWS
    (case a0 => k_is)
    (case l0 => k_is)
    (case c0 => k_is)
    (case k0 => k_is)
    (case a1 => k_is)
    (case l1 => k_is)
    (case c1 => k_is)
    (case k1 => k_is)
    (case a2 => k_is)
    (case l2 => k_is)
    (case c2 => k_is)
    (case k2 => k_is)
    (case a3 => k_is)
    (case l3 => k_is)
    (case c3 => k_is)
    (case k3 => k_is)
    (case a4 => k_is)
    (case l4 => k_is)
    (case c4 => k_is)
    (case k4 => k_is)
    (case a5 => k_is)
    (case l5 => k_is)
    (case c5 => k_is)
    (case k5 => k_is)
    (case a6 => k_is)
    (case l6 => k_is)
    (case c6 => k_is)
    (case k6 => k_is)
    (case a7 => k_is)
    (case l7 => k_is)
    (case c7 => k_is)
    (case k7 => k_is)
    (case a8 => k_is)
    (case l8 => k_is)
    (case c8 => k_is)
    (case k8 => k_is)
    (case a9 => k_is)
    (case l9 => k_is)
    (case c9 => k_is)
    (case k9 => k_is)
    (case a10 => k_is)
    (case l10 => k_is)
    (case c10 => k_is)
    (case k10 => k_is)
    (case a11 => k_is)
    (case l11 => k_is)
    (case c11 => k_is)
    (case k11 => k_is)
    (case a12 => k_is)
    (case l12 => k_is)
    (case c12 => k_is)
    (case k12 => k_is)
    (case a13 => k_is)
    (case l13 => k_is)
    (case c13 => k_is)
    (case k13 => k_is)
    (case a14 => k_is)
    (case l14 => k_is)
    (case c14 => k_is)
    (case k14 => k_is)
    (case a15 => k_is)
    (case l15 => k_is)
    (case c15 => k_is)
    (case k15 => k_is)
    (case a16 => k_is)
    (case l16 => k_is)
    (case c16 => k_is)
    (case k16 => k_is)
    (case a17 => k_is)
    (case l17 => k_is)
    (case c17 => k_is)
    (case k17 => k_is)
    (case a18 => k_is)
    (case l18 => k_is)
    (case c18 => k_is)
    (case k18 => k_is)
    (case a19 => k_is)
    (case l19 => k_is)
    (case c19 => k_is)
    (case k19 => k_is)
    (case z_all => k_is)
    (case z_bool => k_is)
    (case z_enumerate => k_is)
    (case z_int => k_is)
    (case z_isinstance => k_is)
    (case z_len => k_is)
    (case z_list => k_is)
    (case z_min => k_is)
    (case z_range => k_is)
    (case z_repr => k_is)
    (case z_set => k_is)
    (case z_sorted => k_is)
    (case z_sum => k_is)
    (case z_zip => k_is)
    (case z_MOST_COLUMNS => k_is)
    (case z_MOST_ROWS => k_is)
