import PyProof.Rows.All
import Wide.All
import OpenK.AllK
import Wide.FinOn
import HandS.ForMost
import HandS.Wide
import HandS.Gcd
import HandS.IsInst
import HandS.Conv
import HandS.Zip
import HandS.Exc
import HandS.ExcOwn
import PySem.Challenge.RW_wishpanes_k87_snapping
set_option Elab.async false
set_option linter.all false
set_option maxRecDepth 100000
set_option maxHeartbeats 4000000
/-! ML: plain data, a store of objects, and what a def's text does with them, as a function; each rule of the hand layer said once of such functions. -/
namespace ML
open PySem PySem.Spec PyProof.Rows L2

/-- plain data; ref: the n-th object of the store; sq: a list that is only read -/
inductive D where
  | non | bl (b : Bool) | int (i : Int) | str (x : Str) | tup (l : List D) | ref (n : Nat) | ty (n : String) | cls (C : Addr) | sq (l : List D)
/-- an object -/
inductive O where
  | lst (l : List D)
abbrev Mm := List O
abbrev En := List (Option D)
structure Exn where
  C : Addr
  fs : List (Str × D)
inductive R (α : Type) where
  | ok (a : α) (μ : Mm)
  | ex (e : Exn) (μ : Mm)
  | no
abbrev M (α : Type) := Mm → R α
def M.ret {α : Type} (a : α) : M α := fun μ => .ok a μ
def M.thn {α β : Type} (x : M α) (f : α → M β) : M β := fun μ => match x μ with
  | .ok a μ1 => f a μ1
  | .ex e μ1 => .ex e μ1
  | .no => .no
abbrev EM := En → M D
abbrev TM := En → M Bool
abbrev AM := En → M (List D)
/-- what a statement leaves -/
inductive RS where
  | nx (ρ : En) (μ : Mm)
  | rt (d : D) (μ : Mm)
  | bk (ρ : En) (μ : Mm)
  | ct (ρ : En) (μ : Mm)
  | ex (e : Exn) (ρ : En) (μ : Mm)
  | no
abbrev SM := En → Mm → RS
abbrev Fn := List D → Mm → R D

/-! ### how data stand in the heap -/
/-- a list that is locked, or of the module's own -/
def SqF (K : PySem.W.Frag) (H : Hp) (a : Addr) (xs : List V) : Prop :=
  (∃ o, H a = some (.frz o (.lst xs))) ∨ (∃ (o : Obj) (its : Array Value) (n : Nat), K.lookup a = some o ∧ o.cls = .type "list" ∧ o.dict = none ∧ o.data = .seq its n ∧ its.size ≤ sizeLine ∧ Vals xs its.toList)
theorem SqF.l {K : PySem.W.Frag} {H : Hp} {a : Addr} {xs : List V} (h : SqF K H a xs) : SqL K H a xs := by
  rcases h with ⟨o, h⟩ | h
  · exact .inl (.inr ⟨o, h⟩)
  · exact .inr h
section
variable (K : PySem.W.Frag)
mutual
def Rep (H : Hp) (m : List Addr) : D → V → Prop
  | .non, v => v = .non
  | .bl b, v => v = .bl b
  | .int i, v => v = .int i
  | .str x, v => v = .str x
  | .tup l, v => ∃ a xs, v = .ref a ∧ SqT K H a xs ∧ Reps H m l xs
  | .ref n, v => ∃ a, v = .ref a ∧ m[n]? = some a
  | .ty n, v => v = .ty n
  | .cls C, v => v = .ref C
  | .sq l, v => ∃ a xs, v = .ref a ∧ SqF K H a xs ∧ Reps H m l xs
def Reps (H : Hp) (m : List Addr) : List D → List V → Prop
  | [], xs => xs = []
  | d :: l, xs => ∃ v r, xs = v :: r ∧ Rep H m d v ∧ Reps H m l r
end
/-- from a state to a later one -/
structure Go (H : Hp) (m : List Addr) (H1 : Hp) (m1 : List Addr) : Prop where
  tup : ∀ a xs, SqT K H a xs → SqT K H1 a xs
  frz : ∀ a xs, SqF K H a xs → SqF K H1 a xs
  ext : ∀ (n : Nat) (a : Addr), m[n]? = some a → m1[n]? = some a
def HasO (H : Hp) (m : List Addr) (a : Addr) : O → Prop
  | .lst l => ∃ xs, H a = some (.lst xs) ∧ Reps K H m l xs
structure Rl (μ : Mm) (m : List Addr) (H : Hp) : Prop where
  len : m.length = μ.length
  nd : m.Nodup
  obj : ∀ (n : Nat) (o : O) (a : Addr), μ[n]? = some o → m[n]? = some a → HasO K H m a o
structure Wd (ρ : En) (μ : Mm) (m : List Addr) (σ : L2.St) (H : Hp) : Prop where
  env : ∀ (i : Nat) (d : D), ρ[i]? = some (some d) → ∃ v, σ[i]? = some (some v) ∧ Rep K H m d v
  len : ρ.length = σ.length
  rl : Rl K μ m H
end
section
variable {K : PySem.W.Frag} {H H1 H2 : Hp} {m m1 m2 : List Addr} {μ μ1 μ2 : Mm} {ρ : En} {σ : L2.St} {d : D} {v : V}
theorem Go.refl : Go K H m H m := ⟨fun _ _ h => h, fun _ _ h => h, fun _ _ h => h⟩
theorem Go.trans (a : Go K H m H1 m1) (b : Go K H1 m1 H2 m2) : Go K H m H2 m2 := ⟨fun x xs h => b.tup x xs (a.tup x xs h), fun x xs h => b.frz x xs (a.frz x xs h), fun n x h => b.ext n x (a.ext n x h)⟩
mutual
theorem Rep.mono (g : Go K H m H1 m1) : ∀ (d : D) (v : V), Rep K H m d v → Rep K H1 m1 d v
  | .non, v, h => h
  | .bl b, v, h => h
  | .int i, v, h => h
  | .str x, v, h => h
  | .tup l, v, h => by
    obtain ⟨a, xs, e, q, r⟩ := h
    exact ⟨a, xs, e, g.tup a xs q, Reps.mono g l xs r⟩
  | .ref n, v, h => by
    obtain ⟨a, e, q⟩ := h
    exact ⟨a, e, g.ext n a q⟩
  | .ty n, v, h => h
  | .cls C, v, h => h
  | .sq l, v, h => by
    obtain ⟨a, xs, e, q, r⟩ := h
    exact ⟨a, xs, e, g.frz a xs q, Reps.mono g l xs r⟩
theorem Reps.mono (g : Go K H m H1 m1) : ∀ (l : List D) (xs : List V), Reps K H m l xs → Reps K H1 m1 l xs
  | [], xs, h => h
  | d :: l, xs, h => by
    obtain ⟨v, r, e, a, b⟩ := h
    exact ⟨v, r, e, Rep.mono g d v a, Reps.mono g l r b⟩
end
theorem Reps.len : ∀ {l : List D} {xs : List V}, Reps K H m l xs → xs.length = l.length
  | [], xs, h => by
    have e : xs = [] := h
    rw [e] <;> rfl
  | d :: l, xs, h => by
    obtain ⟨v, r, e, a, b⟩ := h
    rw [e, List.length_cons, List.length_cons, Reps.len b]
theorem Reps.get : ∀ {l : List D} {xs : List V} {i : Nat} {d : D}, Reps K H m l xs → l[i]? = some d → ∃ v, xs[i]? = some v ∧ Rep K H m d v
  | [], xs, i, d, h, e => by simp at e
  | x :: l, xs, 0, d, h, e => by
    obtain ⟨v, r, e1, a, b⟩ := h
    have e2 : x = d := by simpa using e
    subst e2
    exact ⟨v, by rw [e1] <;> rfl, a⟩
  | x :: l, xs, i + 1, d, h, e => by
    obtain ⟨v, r, e1, a, b⟩ := h
    obtain ⟨w, q1, q2⟩ := Reps.get (i := i) b (by simpa using e)
    exact ⟨w, by rw [e1]; simpa using q1, q2⟩
theorem Reps.getV : ∀ {l : List D} {xs : List V} {i : Nat} {v : V}, Reps K H m l xs → xs[i]? = some v → ∃ d, l[i]? = some d ∧ Rep K H m d v
  | [], xs, i, v, h, e => by
    have z : xs = [] := h
    rw [z] at e; simp at e
  | x :: l, xs, 0, v, h, e => by
    obtain ⟨w, r, e1, a, b⟩ := h
    rw [e1] at e
    have e2 : w = v := by simpa using e
    subst e2
    exact ⟨x, rfl, a⟩
  | x :: l, xs, i + 1, v, h, e => by
    obtain ⟨w, r, e1, a, b⟩ := h
    rw [e1] at e
    obtain ⟨d, q1, q2⟩ := Reps.getV (i := i) b (by simpa using e)
    exact ⟨d, by simpa using q1, q2⟩
theorem Reps.app : ∀ {l l2 : List D} {xs ys : List V}, Reps K H m l xs → Reps K H m l2 ys → Reps K H m (l ++ l2) (xs ++ ys)
  | [], l2, xs, ys, h, h2 => by
    have z : xs = [] := h
    rw [z]; exact h2
  | x :: l, l2, xs, ys, h, h2 => by
    obtain ⟨w, r, e1, a, b⟩ := h
    rw [e1]
    exact ⟨w, r ++ ys, rfl, a, Reps.app b h2⟩
theorem Reps.one (h : Rep K H m d v) : Reps K H m [d] [v] := ⟨v, [], rfl, h, rfl⟩
theorem Reps.cons {l : List D} {xs : List V} (h : Rep K H m d v) (r : Reps K H m l xs) : Reps K H m (d :: l) (v :: xs) := ⟨v, xs, rfl, h, r⟩
theorem Reps.set : ∀ {l : List D} {xs : List V} (i : Nat), Reps K H m l xs → Rep K H m d v → Reps K H m (l.set i d) (xs.set i v)
  | [], xs, i, h, q => by
    have z : xs = [] := h
    rw [z]; rfl
  | x :: l, xs, 0, h, q => by
    obtain ⟨w, r, e1, a, b⟩ := h
    rw [e1]
    exact ⟨v, r, rfl, q, b⟩
  | x :: l, xs, i + 1, h, q => by
    obtain ⟨w, r, e1, a, b⟩ := h
    rw [e1]
    exact ⟨w, r.set i v, rfl, a, Reps.set i b q⟩
theorem Reps.rev : ∀ {l : List D} {xs : List V}, Reps K H m l xs → Reps K H m l.reverse xs.reverse
  | [], xs, h => by
    have z : xs = [] := h
    rw [z]; rfl
  | x :: l, xs, h => by
    obtain ⟨w, r, e1, a, b⟩ := h
    rw [e1, List.reverse_cons, List.reverse_cons]
    exact Reps.app (Reps.rev b) (Reps.one a)
theorem HasO.mono {a : Addr} {o : O} (g : Go K H m H1 m1) (e : H1 a = H a) (h : HasO K H m a o) : HasO K H1 m1 a o := by
  cases o with
  | lst l =>
    obtain ⟨xs, q, r⟩ := h
    exact ⟨xs, by rw [e]; exact q, Reps.mono g _ _ r⟩
theorem HasO.got {a : Addr} {o : O} (h : HasO K H m a o) : ∃ u, H a = some u := by
  cases o with
  | lst l =>
    obtain ⟨xs, q, r⟩ := h
    exact ⟨_, q⟩
theorem Rl.at (r : Rl K μ m H) {n : Nat} {o : O} (h : μ[n]? = some o) : ∃ a, m[n]? = some a ∧ HasO K H m a o := by
  have hn : n < μ.length := (List.getElem?_eq_some_iff.mp h).1
  have hm : n < m.length := by rw [r.len]; exact hn
  exact ⟨m[n], List.getElem?_eq_getElem hm, r.obj n o _ h (List.getElem?_eq_getElem hm)⟩
theorem Rl.got (r : Rl K μ m H) {n : Nat} {a : Addr} (h : m[n]? = some a) : ∃ u, H a = some u := by
  have hn : n < m.length := (List.getElem?_eq_some_iff.mp h).1
  have hm : n < μ.length := by rw [← r.len]; exact hn
  exact (r.obj n _ a (List.getElem?_eq_getElem hm) h).got
/-- what may be written over: nothing that must stay -/
def Loose (o : Option HO) : Prop := (∀ ys, o ≠ some (.tup ys)) ∧ ∀ ob u, o ≠ some (.frz ob u)
theorem sqT_upd {p a : Addr} {o : HO} {xs : List V} (hp : Loose (H p)) (h : SqT K H a xs) : SqT K (upd H p o) a xs := by
  rcases h with (h | ⟨ob, h⟩) | h
  · refine .inl (.inl ?_)
    rw [upd_ne (fun e => hp.1 xs (by rw [← e]; exact h))]
    exact h
  · refine .inl (.inr ⟨ob, ?_⟩)
    rw [upd_ne (fun e => hp.2 ob _ (by rw [← e]; exact h))]
    exact h
  · exact .inr h
theorem sqF_upd {p a : Addr} {o : HO} {xs : List V} (hp : Loose (H p)) (h : SqF K H a xs) : SqF K (upd H p o) a xs := by
  rcases h with ⟨ob, h⟩ | h
  · refine .inl ⟨ob, ?_⟩
    rw [upd_ne (fun e => hp.2 ob _ (by rw [← e]; exact h))]
    exact h
  · exact .inr h
theorem hp_none {p : Addr} (h : H p = none) : Loose (H p) := by
  rw [h]
  exact And.intro (fun _ z => by cases z) (fun _ _ z => by cases z)
theorem hp_lst {p : Addr} {zs : List V} (h : H p = some (.lst zs)) : Loose (H p) := by
  rw [h]
  exact And.intro (fun _ z => by cases z) (fun _ _ z => by cases z)
theorem Go.lay {p : Addr} {o : HO} (h : Loose (H p)) (e : ∀ (n : Nat) (a : Addr), m[n]? = some a → m1[n]? = some a) : Go K H m (upd H p o) m1 := ⟨fun _ _ q => sqT_upd h q, fun _ _ q => sqF_upd h q, e⟩
/-- a new object beside the store -/
theorem Go.side {p : Addr} {o : HO} (h : H p = none) : Go K H m (upd H p o) m := Go.lay (hp_none h) fun _ _ q => q
theorem Rl.side {p : Addr} {o : HO} (r : Rl K μ m H) (h : H p = none) : Rl K μ m (upd H p o) := by
  refine ⟨r.len, r.nd, fun n u a h1 h2 => (r.obj n u a h1 h2).mono (Go.side h) (upd_ne fun e => ?_)⟩
  obtain ⟨w, hw⟩ := r.got h2
  rw [e, h] at hw; cases hw
/-- a new list in the store -/
theorem Go.new {p : Addr} {o : HO} (h : H p = none) : Go K H m (upd H p o) (m ++ [p]) := Go.lay (hp_none h) fun n a q => by
  rw [List.getElem?_append_left (List.getElem?_eq_some_iff.mp q).1]; exact q
theorem Rl.new {p : Addr} {l : List D} {xs : List V} (r : Rl K μ m H) (h : H p = none) (q : Reps K H m l xs) : Rl K (μ ++ [.lst l]) (m ++ [p]) (upd H p (.lst xs)) := by
  have np : p ∉ m := fun z => by
    obtain ⟨n, hn, e⟩ := List.getElem_of_mem z
    obtain ⟨u, hu⟩ := r.got (n := n) (a := p) (by rw [List.getElem?_eq_getElem hn, e])
    rw [h] at hu; cases hu
  refine ⟨by rw [List.length_append, List.length_append, r.len]; rfl, ?_, fun n u a h1 h2 => ?_⟩
  · rw [List.nodup_append]
    refine ⟨r.nd, by simp, fun x hx y hy z => ?_⟩
    have : y = p := by simpa using hy
    subst this
    exact np (z ▸ hx)
  · by_cases hn : n < μ.length
    · have hm : n < m.length := by rw [r.len]; exact hn
      rw [List.getElem?_append_left hn] at h1
      rw [List.getElem?_append_left hm] at h2
      refine (r.obj n u a h1 h2).mono (Go.new h) (upd_ne fun e => ?_)
      obtain ⟨w, hw⟩ := r.got h2
      rw [e, h] at hw; cases hw
    · have e1 : n = μ.length := by
        have := (List.getElem?_eq_some_iff.mp h1).1
        rw [List.length_append] at this
        simp at this
        omega
      have e2 : n = m.length := by rw [r.len]; exact e1
      rw [e1, List.getElem?_append_right (Nat.le_refl _), Nat.sub_self] at h1
      rw [e2, List.getElem?_append_right (Nat.le_refl _), Nat.sub_self] at h2
      have z1 : O.lst l = u := by simpa using h1
      have z2 : p = a := by simpa using h2
      subst z1; subst z2
      exact ⟨xs, upd_same, Reps.mono (Go.new h) _ _ q⟩
/-- a list of the store is written -/
theorem Go.put {p : Addr} {zs : List V} {o : HO} (h : H p = some (.lst zs)) : Go K H m (upd H p o) m := Go.lay (hp_lst h) fun _ _ q => q
theorem Rl.put {p : Addr} {n : Nat} {zs xs : List V} {l : List D} (r : Rl K μ m H) (hm : m[n]? = some p) (h : H p = some (.lst zs)) (q : Reps K H m l xs) : Rl K (μ.set n (.lst l)) m (upd H p (.lst xs)) := by
  refine ⟨by rw [List.length_set]; exact r.len, r.nd, fun k u a h1 h2 => ?_⟩
  by_cases hk : k = n
  · subst hk
    have hn : k < μ.length := by
      have := (List.getElem?_eq_some_iff.mp h1).1
      rw [List.length_set] at this
      exact this
    rw [List.getElem?_set_self hn] at h1
    have z1 : O.lst l = u := by simpa using h1
    subst z1
    rw [hm] at h2
    have z2 : p = a := by simpa using h2
    subst z2
    exact ⟨xs, upd_same, Reps.mono (Go.put h) _ _ q⟩
  · rw [List.getElem?_set_ne (Ne.symm hk)] at h1
    refine (r.obj k u a h1 h2).mono (Go.put h) (upd_ne fun e => ?_)
    subst e
    exact hk (nd_ix r.nd h2 hm)
theorem Wd.mono {H1 : Hp} {m1 : List Addr} {μ1 : Mm} (w : Wd K ρ μ m σ H) (g : Go K H m H1 m1) (r : Rl K μ1 m1 H1) : Wd K ρ μ1 m1 σ H1 :=
  ⟨fun i d e => by
    obtain ⟨v, a, b⟩ := w.env i d e
    exact ⟨v, a, Rep.mono g d v b⟩, w.len, r⟩
theorem Wd.set {i : Nat} (w : Wd K ρ μ m σ H) (h : Rep K H m d v) : Wd K (ρ.set i (some d)) μ m (σ.set i (some v)) H := by
  refine ⟨fun j x e => ?_, by rw [List.length_set, List.length_set]; exact w.len, w.rl⟩
  by_cases hj : j = i
  · subst hj
    have hn : j < ρ.length := by
      have := (List.getElem?_eq_some_iff.mp e).1
      rw [List.length_set] at this
      exact this
    rw [List.getElem?_set_self hn] at e
    have z : d = x := by simpa using e
    subst z
    exact ⟨v, List.getElem?_set_self (by rw [← w.len]; exact hn), h⟩
  · rw [List.getElem?_set_ne (Ne.symm hj)] at e
    obtain ⟨u, a, b⟩ := w.env j x e
    exact ⟨u, by rw [List.getElem?_set_ne (Ne.symm hj)]; exact a, b⟩
end
end ML
namespace ML
open PySem PySem.Spec PyProof.Rows L2
def M.stop {α : Type} : M α := fun _ => .no
abbrev EN0 : L2.St → XK := fun _ _ _ _ => False
/-- what stands in the heap of an exception with fields -/
def ExR (K : PySem.W.Frag) (H : Hp) (m : List Addr) (e : Exn) (dd : Option Addr) : Prop :=
  ∃ a fs, dd = some a ∧ H a = some (.xd fs) ∧ fs.map (·.1) = e.fs.map (·.1) ∧ Reps K H m (e.fs.map (·.2)) (fs.map (·.2))
def Post {α β : Type} (K : PySem.W.Frag) (RA : Hp → List Addr → α → β → Prop) (E : XK) (m : List Addr) (H : Hp) (r : R α) (Q : β → Hp → Prop) : Prop :=
  match r with
  | .ok d μ1 => ∀ v m1 H1, Go K H m H1 m1 → Rl K μ1 m1 H1 → RA H1 m1 d v → Q v H1
  | .ex e μ1 => ∀ dd m1 H1, Go K H m H1 m1 → Rl K μ1 m1 H1 → ExR K H1 m1 e dd → E (.ref e.C) dd H1
  | .no => False
def tG {α β : Type} (K : PySem.W.Frag) (RA : Hp → List Addr → α → β → Prop) (E : L2.St → XK) (φ : En → M α) : L2.St → Hp → (β → Hp → Prop) → Prop :=
  fun σ H Q => ∃ ρ μ m, Wd K ρ μ m σ H ∧ Post K RA (E σ) m H (φ ρ μ) Q
abbrev RB (_ : Hp) (_ : List Addr) (b : Bool) (c : Bool) : Prop := c = b
abbrev tM (K : PySem.W.Frag) (E : L2.St → XK) (φ : EM) : TE := tG K (Rep K) E φ
abbrev tT (K : PySem.W.Frag) (E : L2.St → XK) (χ : TM) : TT := tG K RB E χ
abbrev tA (K : PySem.W.Frag) (E : L2.St → XK) (φ : AM) : TA := tG K (Reps K) E φ
section
variable {α β γ δ : Type} {K : PySem.W.Frag} {RA : Hp → List Addr → α → β → Prop} {RC : Hp → List Addr → γ → δ → Prop} {E : XK} {m m1 : List Addr} {H H1 : Hp} {r : R α} {Q Q' : β → Hp → Prop} {μ : Mm}
theorem Post.weak (g : Go K H m H1 m1) (h : Post K RA E m H r Q) : Post K RA E m1 H1 r Q := by
  cases r with
  | ok d μ1 => exact fun v m2 H2 g2 r2 q => h v m2 H2 (g.trans g2) r2 q
  | ex e μ1 => exact fun dd m2 H2 g2 r2 q => h dd m2 H2 (g.trans g2) r2 q
  | no => exact h
theorem Post.imp (i : ∀ v H1, Q v H1 → Q' v H1) (h : Post K RA E m H r Q) : Post K RA E m H r Q' := by
  cases r with
  | ok d μ1 => exact fun v m2 H2 g2 r2 q => i v H2 (h v m2 H2 g2 r2 q)
  | ex e μ1 => exact h
  | no => exact h
theorem Post.thn {x : M α} {f : α → M γ} {Q : δ → Hp → Prop} (h : Post K RC E m H (M.thn x f μ) Q) :
    Post K RA E m H (x μ) (fun v H1 => ∃ d μ1 m1, Go K H m H1 m1 ∧ Rl K μ1 m1 H1 ∧ RA H1 m1 d v ∧ Post K RC E m1 H1 (f d μ1) Q) := by
  unfold M.thn at h
  cases hx : x μ with
  | ok d μ1 =>
    rw [hx] at h
    exact fun v m1 H1 g r ra => ⟨d, μ1, m1, g, r, ra, h.weak g⟩
  | ex e μ1 =>
    rw [hx] at h
    exact h
  | no =>
    rw [hx] at h
    exact h
theorem Post.ret {a : α} {b : β} (h : Post K RA E m H (M.ret a μ) Q) (r : Rl K μ m H) (ra : RA H m a b) : Q b H := h b m H Go.refl r ra
end
theorem _root_.L2.PE.imp {X : Cx} {e : Expr} {t t' : TE} (h : PE X e t) (i : ∀ σ H Q, t' σ H Q → t σ H Q) : PE X e t' := ⟨fun pins s σ H Q I q => h.run pins s σ H Q I (i σ H Q q)⟩
theorem _root_.L2.PT.imp {X : Cx} {e : Expr} {t t' : TT} (h : PT X e t) (i : ∀ σ H Q, t' σ H Q → t σ H Q) : PT X e t' := ⟨fun pins s σ H Q I q => h.run pins s σ H Q I (i σ H Q q)⟩
theorem _root_.L2.PW.imp {X : Cx} {e : Expr} {t t' : TT} (h : PW X e t) (i : ∀ σ H Q, t' σ H Q → t σ H Q) : PW X e t' := ⟨fun wh pins s σ H Q I q => h.run wh pins s σ H Q I (i σ H Q q)⟩
theorem _root_.L2.PA.imp {X : Cx} {e : List Expr} {t t' : TA} (h : PA X e t) (i : ∀ σ H Q, t' σ H Q → t σ H Q) : PA X e t' := ⟨fun pos pins s σ H Q I q => h.run pos pins s σ H Q I (i σ H Q q)⟩
theorem _root_.L2.PS.imp {X : Cx} {e : Stmt} {t t' : TS} (h : PS X e t) (i : ∀ D σ H, t' D σ H → t D σ H) : PS X e t' := ⟨fun pins s σ H D I q => h.run pins s σ H D I (i D σ H q)⟩
theorem _root_.L2.PSs.imp {X : Cx} {e : List Stmt} {t t' : TS} (h : PSs X e t) (i : ∀ D σ H, t' D σ H → t D σ H) : PSs X e t' := ⟨fun pins s σ H D I q => h.run pins s σ H D I (i D σ H q)⟩
theorem _root_.L2.PI.imp {X : Cx} {tg e : Expr} {t t' : TI} (h : PI X tg e t) (i : ∀ σ H R, t' σ H R → t σ H R) : PI X tg e t' := ⟨fun pins s σ H R I q => h.run pins s σ H R I (i σ H R q)⟩
/-! ### expressions -/
def eV (i : Nat) : EM := fun ρ => match ρ[i]? with
  | some (some d) => M.ret d
  | _ => M.stop
def eC (d : D) : EM := fun _ => M.ret d
def e1 (f : D → M D) (a : EM) : EM := fun ρ => M.thn (a ρ) f
def e2 (f : D → D → M D) (a b : EM) : EM := fun ρ => M.thn (a ρ) fun x => M.thn (b ρ) fun y => f x y
def aNil : AM := fun _ => M.ret []
def aCons (a : EM) (r : AM) : AM := fun ρ => M.thn (a ρ) fun x => M.thn (r ρ) fun xs => M.ret (x :: xs)
def eArgs (f : List D → M D) (r : AM) : EM := fun ρ => M.thn (r ρ) f
def cAnd (a b : TM) : TM := fun ρ => M.thn (a ρ) fun c => if c then b ρ else M.ret false
def cOr (a b : TM) : TM := fun ρ => M.thn (a ρ) fun c => if c then M.ret true else b ρ
def cNot (a : TM) : TM := fun ρ => M.thn (a ρ) fun c => M.ret (!c)
def asB : D → M Bool
  | .bl b => M.ret b
  | _ => M.stop
def cVal (a : EM) : TM := fun ρ => M.thn (a ρ) asB
def eIf (c : TM) (a b : EM) : EM := fun ρ => M.thn (c ρ) fun k => if k then a ρ else b ρ
def eAnd (a b : EM) : EM := fun ρ => M.thn (a ρ) fun x => M.thn (asB x) fun k => if k then b ρ else M.ret (.bl false)
def eOr (a b : EM) : EM := fun ρ => M.thn (a ρ) fun x => M.thn (asB x) fun k => if k then M.ret (.bl true) else b ρ
def eNot (a : EM) : EM := fun ρ => M.thn (a ρ) fun x => M.thn (asB x) fun k => M.ret (.bl (!k))
section
variable {X : Cx} {E : L2.St → XK} {a b : Expr} {φ φ1 φ2 : EM} {χ χ1 χ2 : TM} {pos : Pos} {rest : List Expr}
theorem me_var (i : Nat) {x : Str} (hN : X.N[i]? = some x := by rfl) (hv : Vis X.env.scope x := by first | exact Or.inl rfl | exact Or.inr (Or.inl rfl) | exact Or.inr (Or.inr rfl)) (hd : (x == ("__debug__" : Str)) = false := by decide)
    (hcd : (x == ("__classdict__" : Str)) = false := by decide) : PE X (.Name x pos) (tM X.K E (eV i)) :=
  (pe_var hN hv hd hcd).imp fun σ H Q h => by
    obtain ⟨ρ, μ, m, w, h⟩ := h
    unfold eV at h
    cases e : ρ[i]? with
    | none => simp only [e] at h; exact h.elim
    | some o =>
      cases o with
      | none => simp only [e] at h; exact h.elim
      | some d =>
        simp only [e] at h
        obtain ⟨v, q1, q2⟩ := w.env i d e
        exact ⟨v, q1, h.ret w.rl q2⟩
theorem me_c {d : D} {v : V} (h : PE X a (tC v)) (r : ∀ H m, Rep X.K H m d v) : PE X a (tM X.K E (eC d)) := h.imp fun σ H Q q => by
  obtain ⟨ρ, μ, m, w, q⟩ := q
  exact q.ret w.rl (r H m)
theorem me_int {i j} : PE X (.Constant (.int i) j pos) (tM X.K E (eC (.int i))) := me_c pe_int fun _ _ => rfl
theorem me_bl {b j} : PE X (.Constant (.bool b) j pos) (tM X.K E (eC (.bl b))) := me_c pe_bl fun _ _ => rfl
theorem me_non {j} : PE X (.Constant .none j pos) (tM X.K E (eC .non)) := me_c pe_non fun _ _ => rfl
theorem me_str {x j} : PE X (.Constant (.str x) j pos) (tM X.K E (eC (.str x))) := me_c pe_str fun _ _ => rfl
/-- a one-place, a two-place operation, a call by values -/
def S1 (K : PySem.W.Frag) (r : V → Hp → VK → Prop) (f : D → M D) : Prop := ∀ E x μ m H v Q, Rl K μ m H → Rep K H m x v → Post K (Rep K) E m H (f x μ) Q → r v H Q
def S2 (K : PySem.W.Frag) (r : R2) (f : D → D → M D) : Prop := ∀ E x y μ m H v u Q, Rl K μ m H → Rep K H m x v → Rep K H m y u → Post K (Rep K) E m H (f x y μ) Q → r v u H Q
def SL (K : PySem.W.Frag) (r : List V → Hp → VK → Prop) (f : List D → M D) : Prop := ∀ E xs μ m H vs Q, Rl K μ m H → Reps K H m xs vs → Post K (Rep K) E m H (f xs μ) Q → r vs H Q
theorem step1 {σ : L2.St} {H : Hp} {Q : VK} {f : D → M D} (h : tM X.K E (e1 f φ) σ H Q) : tM X.K E φ σ H fun v H1 => ∃ x μ m, Rl X.K μ m H1 ∧ Rep X.K H1 m x v ∧ Post X.K (Rep X.K) (E σ) m H1 (f x μ) Q := by
  obtain ⟨ρ, μ, m, w, h⟩ := h
  exact ⟨ρ, μ, m, w, h.thn.imp fun v H1 ⟨d, μ1, m1, g, r, ra, h2⟩ => ⟨d, μ1, m1, r, ra, h2⟩⟩
theorem step2 {σ : L2.St} {H : Hp} {Q : VK} {f : D → D → M D} (h : tM X.K E (e2 f φ1 φ2) σ H Q) : tM X.K E φ1 σ H fun v H1 => tM X.K E φ2 σ H1 fun u H2 => ∃ x y μ m, Rl X.K μ m H2 ∧ Rep X.K H2 m x v ∧ Rep X.K H2 m y u ∧ Post X.K (Rep X.K) (E σ) m H2 (f x y μ) Q := by
  obtain ⟨ρ, μ, m, w, h⟩ := h
  exact ⟨ρ, μ, m, w, h.thn.imp fun v H1 ⟨d, μ1, m1, g, r, ra, h2⟩ => ⟨ρ, μ1, m1, w.mono g r, h2.thn.imp fun u H2 ⟨d2, μ2, m2, g2, r2, ra2, h3⟩ => ⟨d, d2, μ2, m2, r2, Rep.mono g2 _ _ ra, ra2, h3⟩⟩⟩
theorem me_op {op : Operator} {r : R2} {f : D → D → M D} (ho : OpR X (binaryOp op) r) (hs : S2 X.K r f) (ha : PE X a (tM X.K E φ1)) (hb : PE X b (tM X.K E φ2)) : PE X (.BinOp a op b pos) (tM X.K E (e2 f φ1 φ2)) :=
  (pe_op ho ha hb).imp fun σ H Q h => by
    obtain ⟨ρ, μ, m, w, h⟩ := step2 h
    exact ⟨ρ, μ, m, w, h.imp fun v H1 ⟨ρ1, μ1, m1, w1, h1⟩ => ⟨ρ1, μ1, m1, w1, h1.imp fun u H2 ⟨x, y, μ2, m2, r2, rx, ry, h2⟩ => hs _ x y μ2 m2 H2 v u Q r2 rx ry h2⟩⟩
theorem me_cmp {op : CmpOp} {r : R2} {f : D → D → M D} (ho : OpR X (compareOp op) r) (hs : S2 X.K r f) (ha : PE X a (tM X.K E φ1)) (hb : PE X b (tM X.K E φ2)) (hm : behindInMarks op b = false) : PE X (.Compare a [op] [b] pos) (tM X.K E (e2 f φ1 φ2)) :=
  (pe_cmpR ho ha hb hm).imp fun σ H Q h => by
    obtain ⟨ρ, μ, m, w, h⟩ := step2 h
    exact ⟨ρ, μ, m, w, h.imp fun v H1 ⟨ρ1, μ1, m1, w1, h1⟩ => ⟨ρ1, μ1, m1, w1, h1.imp fun u H2 ⟨x, y, μ2, m2, r2, rx, ry, h2⟩ => hs _ x y μ2 m2 H2 v u Q r2 rx ry h2⟩⟩
theorem me_ix {r : R2} {f : D → D → M D} (ho : IxR X r) (hs : S2 X.K r f) (ha : PE X a (tM X.K E φ1)) (hb : PE X b (tM X.K E φ2)) (hp : PlainIx b) : PE X (.Subscript a b pos) (tM X.K E (e2 f φ1 φ2)) :=
  (pe_ix ho ha hb hp).imp fun σ H Q h => by
    obtain ⟨ρ, μ, m, w, h⟩ := step2 h
    exact ⟨ρ, μ, m, w, h.imp fun v H1 ⟨ρ1, μ1, m1, w1, h1⟩ => ⟨ρ1, μ1, m1, w1, h1.imp fun u H2 ⟨x, y, μ2, m2, r2, rx, ry, h2⟩ => hs _ x y μ2 m2 H2 v u Q r2 rx ry h2⟩⟩
theorem me_un {op : UnaryOp} {r : V → Hp → VK → Prop} {f : D → M D} (ho : UnR X (unaryOp op) r) (hs : S1 X.K r f) (ha : PE X a (tM X.K E φ)) : PE X (.UnaryOp op a pos) (tM X.K E (e1 f φ)) :=
  (pe_un ho ha).imp fun σ H Q h => by
    obtain ⟨ρ, μ, m, w, h⟩ := step1 h
    exact ⟨ρ, μ, m, w, h.imp fun v H1 ⟨x, μ1, m1, r1, rx, h1⟩ => hs _ x μ1 m1 H1 v Q r1 rx h1⟩
/-! tests -/
theorem mt_val (ha : PE X a (tM X.K E φ)) (he : ∀ whole, isTrue a X.env whole = (do let v ← whole; standAt a.pos; holding [v] (truthy v)) := by intro _; rfl) : PT X a (tT X.K E (cVal φ)) :=
  (pt_val ha he).imp fun σ H Q h => by
    obtain ⟨ρ, μ, m, w, h⟩ := h
    refine ⟨ρ, μ, m, w, h.thn.imp fun v H1 ⟨d, μ1, m1, g, r, ra, h2⟩ => ?_⟩
    cases d with
    | bl k =>
      cases (show v = .bl k from ra)
      exact ⟨k, rfl, h2 k m1 H1 Go.refl r rfl⟩
    | _ => exact h2.elim
theorem mt_cmp {op : CmpOp} {r : R2} {f : D → D → M D} (ho : OpR X (compareOp op) r) (hs : S2 X.K r f) (ha : PE X a (tM X.K E φ1)) (hb : PE X b (tM X.K E φ2)) (hm : behindInMarks op b = false) : PT X (.Compare a [op] [b] pos) (tT X.K E (cVal (e2 f φ1 φ2))) := by
  refine (pt_cmpR ho ha hb hm).imp fun σ H Q h => ?_
  have h' : tM X.K E (e2 f φ1 φ2) σ H fun v H1 => ∃ k, v = .bl k ∧ Q k H1 := by
    obtain ⟨ρ, μ, m, w, h⟩ := h
    refine ⟨ρ, μ, m, w, h.thn.imp fun v H1 ⟨d, μ1, m1, g, r, ra, h2⟩ => ?_⟩
    cases d with
    | bl k =>
      cases (show v = .bl k from ra)
      exact ⟨k, rfl, h2 k m1 H1 Go.refl r rfl⟩
    | _ => exact h2.elim
  obtain ⟨ρ, μ, m, w, h⟩ := step2 h'
  show tM X.K E φ1 σ H fun x H1 => tM X.K E φ2 σ H1 fun y H2 => r x y H2 fun x H1 => ∃ c, x = .bl c ∧ Q c H1
  exact ⟨ρ, μ, m, w, h.imp fun v H1 ⟨ρ1, μ1, m1, w1, h1⟩ => ⟨ρ1, μ1, m1, w1, h1.imp fun u H2 ⟨x, y, μ2, m2, r2, rx, ry, h2⟩ => hs _ x y μ2 m2 H2 v u _ r2 rx ry h2⟩⟩
theorem mt_not (ha : PT X a (tT X.K E χ)) : PT X (.UnaryOp .Not a pos) (tT X.K E (cNot χ)) :=
  (pt_not ha).imp fun σ H Q h => by
    obtain ⟨ρ, μ, m, w, h⟩ := h
    refine ⟨ρ, μ, m, w, h.thn.imp fun v H1 ⟨d, μ1, m1, g, r, ra, h2⟩ => ?_⟩
    cases (show v = d from ra)
    exact h2 _ m1 H1 Go.refl r rfl
theorem mw_and1 (ha : PT X a (tT X.K E χ)) : PW X (.BoolOp .And [a] pos) (tT X.K E χ) := pw_and1 ha
theorem mw_or1 (ha : PT X a (tT X.K E χ)) : PW X (.BoolOp .Or [a] pos) (tT X.K E χ) := pw_or1 ha
theorem mw_and (ha : PT X a (tT X.K E χ1)) (hb : PW X (.BoolOp .And (b :: rest) pos) (tT X.K E χ2)) : PW X (.BoolOp .And (a :: b :: rest) pos) (tT X.K E (cAnd χ1 χ2)) :=
  (pw_and ha hb).imp fun σ H Q h => by
    obtain ⟨ρ, μ, m, w, h⟩ := h
    refine ⟨ρ, μ, m, w, h.thn.imp fun v H1 ⟨d, μ1, m1, g, r, ra, h2⟩ => ?_⟩
    cases (show v = d from ra)
    cases v with
    | true => exact ⟨ρ, μ1, m1, w.mono g r, h2⟩
    | false => exact h2 _ m1 H1 Go.refl r rfl
theorem mw_or (ha : PT X a (tT X.K E χ1)) (hb : PW X (.BoolOp .Or (b :: rest) pos) (tT X.K E χ2)) : PW X (.BoolOp .Or (a :: b :: rest) pos) (tT X.K E (cOr χ1 χ2)) :=
  (pw_or ha hb).imp fun σ H Q h => by
    obtain ⟨ρ, μ, m, w, h⟩ := h
    refine ⟨ρ, μ, m, w, h.thn.imp fun v H1 ⟨d, μ1, m1, g, r, ra, h2⟩ => ?_⟩
    cases (show v = d from ra)
    cases v with
    | true => exact h2 _ m1 H1 Go.refl r rfl
    | false => exact ⟨ρ, μ1, m1, w.mono g r, h2⟩
/-! and, or, not as values -/
theorem me_one {op} (h : PE X a (tM X.K E φ)) : PE X (.BoolOp op [a] pos) (tM X.K E φ) := pe_one h
theorem me_and (ha : PE X a (tM X.K E φ1)) (hb : PE X (.BoolOp .And (b :: rest) pos) (tM X.K E φ2)) : PE X (.BoolOp .And (a :: b :: rest) pos) (tM X.K E (eAnd φ1 φ2)) :=
  (pe_and ha hb).imp fun σ H Q h => by
    obtain ⟨ρ, μ, m, w, h⟩ := h
    refine ⟨ρ, μ, m, w, h.thn.imp fun v H1 ⟨d, μ1, m1, g, r, ra, h2⟩ => ?_⟩
    cases d with
    | bl k =>
      cases (show v = .bl k from ra)
      cases k with
      | true => exact ⟨true, rfl, ρ, μ1, m1, w.mono g r, h2⟩
      | false => exact ⟨false, rfl, h2 _ m1 H1 Go.refl r rfl⟩
    | _ => exact h2.elim
theorem me_or (ha : PE X a (tM X.K E φ1)) (hb : PE X (.BoolOp .Or (b :: rest) pos) (tM X.K E φ2)) : PE X (.BoolOp .Or (a :: b :: rest) pos) (tM X.K E (eOr φ1 φ2)) :=
  (pe_or ha hb).imp fun σ H Q h => by
    obtain ⟨ρ, μ, m, w, h⟩ := h
    refine ⟨ρ, μ, m, w, h.thn.imp fun v H1 ⟨d, μ1, m1, g, r, ra, h2⟩ => ?_⟩
    cases d with
    | bl k =>
      cases (show v = .bl k from ra)
      cases k with
      | false => exact ⟨false, rfl, ρ, μ1, m1, w.mono g r, h2⟩
      | true => exact ⟨true, rfl, h2 _ m1 H1 Go.refl r rfl⟩
    | _ => exact h2.elim
theorem me_not (ha : PE X a (tM X.K E φ)) : PE X (.UnaryOp .Not a pos) (tM X.K E (eNot φ)) :=
  (pe_not ha).imp fun σ H Q h => by
    obtain ⟨ρ, μ, m, w, h⟩ := h
    refine ⟨ρ, μ, m, w, h.thn.imp fun v H1 ⟨d, μ1, m1, g, r, ra, h2⟩ => ?_⟩
    cases d with
    | bl k =>
      cases (show v = .bl k from ra)
      exact ⟨k, rfl, h2 _ m1 H1 Go.refl r rfl⟩
    | _ => exact h2.elim
theorem me_if {c : Expr} (hc : PT X c (tT X.K E χ)) (ha : PE X a (tM X.K E φ1)) (hb : PE X b (tM X.K E φ2)) : PE X (.IfExp c a b pos) (tM X.K E (eIf χ φ1 φ2)) :=
  (pe_ifExp hc ha hb).imp fun σ H Q h => by
    obtain ⟨ρ, μ, m, w, h⟩ := h
    refine ⟨ρ, μ, m, w, h.thn.imp fun v H1 ⟨d, μ1, m1, g, r, ra, h2⟩ => ?_⟩
    cases (show v = d from ra)
    cases v with
    | true => exact ⟨ρ, μ1, m1, w.mono g r, h2⟩
    | false => exact ⟨ρ, μ1, m1, w.mono g r, h2⟩
/-! arguments, displays, calls -/
theorem ma_nil : PA X [] (tA X.K E aNil) := pa_nil.imp fun σ H Q h => by
  obtain ⟨ρ, μ, m, w, h⟩ := h
  exact h.ret w.rl rfl
theorem ma_cons {es : List Expr} {φr : AM} (ha : PE X a (tM X.K E φ)) (hr : PA X es (tA X.K E φr)) (hs : starEach (a :: es) X.env = (false, eval a X.env) :: starEach es X.env := by rfl) : PA X (a :: es) (tA X.K E (aCons φ φr)) :=
  (pa_cons ha hr hs).imp fun σ H Q h => by
    obtain ⟨ρ, μ, m, w, h⟩ := h
    refine ⟨ρ, μ, m, w, h.thn.imp fun v H1 ⟨d, μ1, m1, g, r, ra, h2⟩ => ?_⟩
    refine ⟨ρ, μ1, m1, w.mono g r, h2.thn.imp fun vs H2 ⟨ds, μ2, m2, g2, r2, ra2, h3⟩ => ?_⟩
    exact h3.ret r2 (Reps.cons (Rep.mono g2 _ _ ra) ra2)
theorem stepL {σ : L2.St} {H : Hp} {Q : VK} {φ : AM} {f : List D → M D} (h : tM X.K E (eArgs f φ) σ H Q) : tA X.K E φ σ H fun vs H1 => ∃ xs μ m, Rl X.K μ m H1 ∧ Reps X.K H1 m xs vs ∧ Post X.K (Rep X.K) (E σ) m H1 (f xs μ) Q := by
  obtain ⟨ρ, μ, m, w, h⟩ := h
  exact ⟨ρ, μ, m, w, h.thn.imp fun v H1 ⟨d, μ1, m1, g, r, ra, h2⟩ => ⟨d, μ1, m1, r, ra, h2⟩⟩
def mkTup (xs : List D) : M D := if xs.length ≤ sizeLine then M.ret (.tup xs) else M.stop
/-- a new list -/
def mkLst (xs : List D) : M D := fun μ => if xs.length ≤ sizeLine then .ok (.ref μ.length) (μ ++ [.lst xs]) else .no
theorem post_tup {K : PySem.W.Frag} {E : XK} {xs : List D} {vs : List V} {μ : Mm} {m : List Addr} {H : Hp} {Q : VK} (r : Rl K μ m H) (rs : Reps K H m xs vs) (h : Post K (Rep K) E m H (mkTup xs μ) Q) : vs.length ≤ sizeLine ∧ ∀ p, H p = none → Q (.ref p) (upd H p (.tup vs)) := by
  unfold mkTup at h
  by_cases hz : xs.length ≤ sizeLine
  · rw [if_pos hz] at h
    refine ⟨by rw [rs.len]; exact hz, fun p hp => ?_⟩
    exact h (.ref p) m _ (Go.side hp) (r.side hp) ⟨p, vs, rfl, SqT.of upd_same, Reps.mono (Go.side hp) _ _ rs⟩
  · rw [if_neg hz] at h
    exact h.elim
theorem post_lst {K : PySem.W.Frag} {E : XK} {xs : List D} {vs : List V} {μ : Mm} {m : List Addr} {H : Hp} {Q : VK} (r : Rl K μ m H) (rs : Reps K H m xs vs) (h : Post K (Rep K) E m H (mkLst xs μ) Q) : vs.length ≤ sizeLine ∧ ∀ p, H p = none → Q (.ref p) (upd H p (.lst vs)) := by
  unfold mkLst at h
  by_cases hz : xs.length ≤ sizeLine
  · rw [if_pos hz] at h
    refine ⟨by rw [rs.len]; exact hz, fun p hp => ?_⟩
    exact h (.ref p) (m ++ [p]) _ (Go.new hp) (r.new hp rs) ⟨p, rfl, by rw [← r.len, List.getElem?_append_right (Nat.le_refl _), Nat.sub_self]; rfl⟩
  · rw [if_neg hz] at h
    exact h.elim
theorem me_tup {es : List Expr} {φ : AM} {k} (h : PA X es (tA X.K E φ)) : PE X (.Tuple es k pos) (tM X.K E (eArgs mkTup φ)) :=
  (pe_tup h).imp fun σ H Q q => by
    obtain ⟨ρ, μ, m, w, q⟩ := stepL q
    exact ⟨ρ, μ, m, w, q.imp fun vs H1 ⟨xs, μ1, m1, r, rs, q1⟩ => post_tup r rs q1⟩
theorem me_lst {es : List Expr} {φ : AM} (h : PA X es (tA X.K E φ)) : PE X (.List es pos) (tM X.K E (eArgs mkLst φ)) :=
  (pe_lst h).imp fun σ H Q q => by
    obtain ⟨ρ, μ, m, w, q⟩ := stepL q
    exact ⟨ρ, μ, m, w, q.imp fun vs H1 ⟨xs, μ1, m1, r, rs, q1⟩ => post_lst r rs q1⟩
variable {x : Str} {p : Pos} {es : List Expr} {φa : AM} {id : String}
theorem me_callB {r : List V → Hp → VK → Prop} {f : List D → M D} (hc : CallR X (.builtin id) r) (hsl : SL X.K r f) (hg : Gl X x) (hm : X.mg x = none) (hv : bootBuiltins x = some (.builtin id)) (ha : PA X (a :: es) (tA X.K E φa)) (hn : x ≠ "__name__" := by decide) (hdb : (x == ("__debug__" : Str)) = false := by decide)
    (he : starEach (a :: es) X.env = (false, eval a X.env) :: starEach es X.env := by rfl) (hpl : (backTo pos (starEach es X.env)).any (·.1) = false := by rfl) : PE X (.Call (.Name x p) (a :: es) [] pos) (tM X.K E (eArgs f φa)) :=
  (pe_callB hc hg hm hv ha hn hdb he hpl).imp fun σ H Q q => by
    obtain ⟨ρ, μ, m, w, q⟩ := stepL q
    exact ⟨ρ, μ, m, w, q.imp fun vs H1 ⟨xs, μ1, m1, r1, rs, q1⟩ => hsl _ xs μ1 m1 H1 vs Q r1 rs q1⟩
theorem me_callTy {r : List V → Hp → VK → Prop} {f : List D → M D} (hc : CallR X (.type id) r) (hsl : SL X.K r f) (hg : Gl X x) (hm : X.mg x = none) (hv : bootBuiltins x = some (.type id)) (ha : PA X (a :: es) (tA X.K E φa)) (hn : x ≠ "__name__" := by decide) (hdb : (x == ("__debug__" : Str)) = false := by decide)
    (he : starEach (a :: es) X.env = (false, eval a X.env) :: starEach es X.env := by rfl) (hpl : (backTo pos (starEach es X.env)).any (·.1) = false := by rfl) : PE X (.Call (.Name x p) (a :: es) [] pos) (tM X.K E (eArgs f φa)) :=
  (pe_callTy hc hg hm hv ha hn hdb he hpl).imp fun σ H Q q => by
    obtain ⟨ρ, μ, m, w, q⟩ := stepL q
    exact ⟨ρ, μ, m, w, q.imp fun vs H1 ⟨xs, μ1, m1, r1, rs, q1⟩ => hsl _ xs μ1 m1 H1 vs Q r1 rs q1⟩
theorem me_callBfun {r : List V → Hp → VK → Prop} {f : List D → M D} (hc : CallR X (.builtin id) r) (hsl : SL X.K r f) (hg : Gl X x) (hm : X.mg x = some (.builtin id)) (ha : PA X (a :: es) (tA X.K E φa)) (hdb : (x == ("__debug__" : Str)) = false := by decide)
    (he : starEach (a :: es) X.env = (false, eval a X.env) :: starEach es X.env := by rfl) (hpl : (backTo pos (starEach es X.env)).any (·.1) = false := by rfl) : PE X (.Call (.Name x p) (a :: es) [] pos) (tM X.K E (eArgs f φa)) :=
  (pe_callBfun hc hg hm ha hdb he hpl).imp fun σ H Q q => by
    obtain ⟨ρ, μ, m, w, q⟩ := stepL q
    exact ⟨ρ, μ, m, w, q.imp fun vs H1 ⟨xs, μ1, m1, r1, rs, q1⟩ => hsl _ xs μ1 m1 H1 vs Q r1 rs q1⟩
/-- a def's promise: it does what f does; spN: of a def that nothing is raised out of -/
def spM (K : PySem.W.Frag) (f : Fn) : Sp := fun vs H Q E => ∃ ds μ m, Reps K H m ds vs ∧ Rl K μ m H ∧ Post K (Rep K) E m H (f ds μ) Q
def spN (K : PySem.W.Frag) (f : Fn) : Sp := fun vs H Q _ => ∃ ds μ m, Reps K H m ds vs ∧ Rl K μ m H ∧ Post K (Rep K) (fun _ _ _ => False) m H (f ds μ) Q
def NoEx (f : Fn) : Prop := ∀ ds μ e μ1, f ds μ ≠ .ex e μ1
theorem me_callX {CX : CXT} {k : Nat} {g : Addr} {fd : FuncData} {ps : List Str} {f : Fn} (F : FnOk X.prog X.w X.K X.mg X.base CX k g fd ps (spM X.K f)) (hr : Room k X.A) (hg : Gl X x) (hm : X.mg x = some (.ref g)) (hk : PySem.W.keepIn X.K (.ref g) = true) (hb : Binds X.K fd ps []) (hx : ∀ σ, PassesAt CX X σ (E σ))
    (ha : PA X (a :: es) (tA X.K E φa)) (hdb : (x == ("__debug__" : Str)) = false := by decide) (he : starEach (a :: es) X.env = (false, eval a X.env) :: starEach es X.env := by rfl) (hpl : (backTo pos (starEach es X.env)).any (·.1) = false := by rfl) :
    PE X (.Call (.Name x p) (a :: es) [] pos) (tM X.K E (eArgs f φa)) :=
  (pe_callS F hr hg hm hk hb hx ha hdb he hpl).imp fun σ H Q q => by
    obtain ⟨ρ, μ, m, w, q⟩ := stepL q
    exact ⟨ρ, μ, m, w, q.imp fun vs H1 ⟨xs, μ1, m1, r1, rs, q1⟩ => ⟨xs, μ1, m1, rs, r1, q1⟩⟩
theorem Post.nox {K : PySem.W.Frag} {E E' : XK} {m : List Addr} {H : Hp} {Q : VK} {r : R D} (h : Post K (Rep K) E m H r Q) (n : ∀ e μ1, r ≠ .ex e μ1) : Post K (Rep K) E' m H r Q := by
  cases r with
  | ok d μ1 => exact h
  | ex e μ1 => exact (n e μ1 rfl).elim
  | no => exact h
theorem me_call {k : Nat} {g : Addr} {fd : FuncData} {ps : List Str} {f : Fn} (F : FnOk X.prog X.w X.K X.mg X.base CX0 k g fd ps (spN X.K f)) (n : NoEx f) (hr : Room k X.A) (hm : X.mg x = some (.ref g)) (hk : PySem.W.keepIn X.K (.ref g) = true) (hb : Binds X.K fd ps [])
    (ha : PA X (a :: es) (tA X.K E φa)) (hg : Gl X x := by rfl) (hdb : (x == ("__debug__" : Str)) = false := by decide) (he : starEach (a :: es) X.env = (false, eval a X.env) :: starEach es X.env := by rfl) (hpl : (backTo pos (starEach es X.env)).any (·.1) = false := by rfl) :
    PE X (.Call (.Name x p) (a :: es) [] pos) (tM X.K E (eArgs f φa)) :=
  (pe_callS (E := EN0) F hr hg hm hk hb (fun _ _ _ _ _ _ _ z => z.elim) ha hdb he hpl).imp fun σ H Q q => by
    obtain ⟨ρ, μ, m, w, q⟩ := stepL q
    exact ⟨ρ, μ, m, w, q.imp fun vs H1 ⟨xs, μ1, m1, r1, rs, q1⟩ => ⟨xs, μ1, m1, rs, r1, q1.nox (n xs μ1)⟩⟩
end
end ML
namespace ML
open PySem PySem.Spec PyProof.Rows L2
/-! ### statements -/
def PostS (K : PySem.W.Frag) (E : L2.St → XK) (m : List Addr) (H : Hp) (r : RS) (Dn : Ends) : Prop :=
  match r with
  | .nx ρ μ => ∀ σ1 m1 H1, Go K H m H1 m1 → Wd K ρ μ m1 σ1 H1 → Dn.nx σ1 H1
  | .rt d μ => ∀ v m1 H1, Go K H m H1 m1 → Rl K μ m1 H1 → Rep K H1 m1 d v → Dn.rt v H1
  | .bk ρ μ => ∀ σ1 m1 H1, Go K H m H1 m1 → Wd K ρ μ m1 σ1 H1 → Dn.bk σ1 H1
  | .ct ρ μ => ∀ σ1 m1 H1, Go K H m H1 m1 → Wd K ρ μ m1 σ1 H1 → Dn.ct σ1 H1
  | .ex e ρ μ => ∀ σ1 dd m1 H1, Go K H m H1 m1 → Wd K ρ μ m1 σ1 H1 → ExR K H1 m1 e dd → E σ1 (.ref e.C) dd H1
  | .no => False
def tS (K : PySem.W.Frag) (E : L2.St → XK) (ψ : SM) : TS := fun Dn σ H => ∃ ρ μ m, Wd K ρ μ m σ H ∧ PostS K E m H (ψ ρ μ) Dn
/-- an expression's end within a statement -/
def RS.bind {α : Type} (r : R α) (ρ : En) (f : α → Mm → RS) : RS := match r with
  | .ok a μ => f a μ
  | .ex e μ => .ex e ρ μ
  | .no => .no
def sNop : SM := fun ρ μ => .nx ρ μ
def sSeq (s t : SM) : SM := fun ρ μ => match s ρ μ with
  | .nx ρ1 μ1 => t ρ1 μ1
  | .rt d μ1 => .rt d μ1
  | .bk ρ1 μ1 => .bk ρ1 μ1
  | .ct ρ1 μ1 => .ct ρ1 μ1
  | .ex e ρ1 μ1 => .ex e ρ1 μ1
  | .no => .no
def sDrop (a : EM) : SM := fun ρ μ => RS.bind (a ρ μ) ρ fun _ μ1 => .nx ρ μ1
def sRet (a : EM) : SM := fun ρ μ => RS.bind (a ρ μ) ρ fun d μ1 => .rt d μ1
def sRetN : SM := fun _ μ => .rt .non μ
def sIf (c : TM) (s t : SM) : SM := fun ρ μ => RS.bind (c ρ μ) ρ fun k μ1 => if k then s ρ μ1 else t ρ μ1
def sBrk : SM := fun ρ μ => .bk ρ μ
def sCnt : SM := fun ρ μ => .ct ρ μ
/-- a target: the names it stores -/
abbrev Tg := D → En → Option En
def sAsg (a : EM) (g : Tg) : SM := fun ρ μ => RS.bind (a ρ μ) ρ fun d μ1 => match g d ρ with
  | some ρ1 => .nx ρ1 μ1
  | none => .no
def gN (i : Nat) : Tg := fun d ρ => some (ρ.set i (some d))
def gs : List Tg → List D → En → Option En
  | [], [], ρ => some ρ
  | g :: r, d :: l, ρ => match g d ρ with
    | some ρ1 => gs r l ρ1
    | none => none
  | _, _, _ => none
def gT (l : List Tg) : Tg := fun d ρ => match d with
  | .tup ds => gs l ds ρ
  | _ => none
section
variable {K : PySem.W.Frag} {E : L2.St → XK} {m m1 : List Addr} {H H1 : Hp} {r : RS} {D1 D2 : Ends}
theorem PostS.weak (g : Go K H m H1 m1) (h : PostS K E m H r D1) : PostS K E m1 H1 r D1 := by
  cases r with
  | nx ρ μ => exact fun σ m2 H2 g2 w => h σ m2 H2 (g.trans g2) w
  | rt d μ => exact fun v m2 H2 g2 w q => h v m2 H2 (g.trans g2) w q
  | bk ρ μ => exact fun σ m2 H2 g2 w => h σ m2 H2 (g.trans g2) w
  | ct ρ μ => exact fun σ m2 H2 g2 w => h σ m2 H2 (g.trans g2) w
  | ex e ρ μ => exact fun σ dd m2 H2 g2 w q => h σ dd m2 H2 (g.trans g2) w q
  | no => exact h
/-- from an expression's end to the statement's -/
theorem Post.to {α β : Type} {RA : Hp → List Addr → α → β → Prop} {x : R α} {f : α → Mm → RS} {ρ : En} {μ : Mm} {σ : L2.St} (w : Wd K ρ μ m σ H) (h : PostS K E m H (RS.bind x ρ f) D1) :
    Post K RA (E σ) m H x (fun v H1 => ∃ d μ1 m1, Go K H m H1 m1 ∧ Wd K ρ μ1 m1 σ H1 ∧ RA H1 m1 d v ∧ PostS K E m1 H1 (f d μ1) D1) := by
  cases x with
  | ok d μ1 => exact fun v m1 H1 g r ra => ⟨d, μ1, m1, g, w.mono g r, ra, PostS.weak g h⟩
  | ex e μ1 => exact fun dd m1 H1 g r q => h σ dd m1 H1 g (w.mono g r) q
  | no => exact h
end
/-- a target's reading does what the data's one does, and touches no other slot than ts -/
def TgOk (K : PySem.W.Frag) (g : TG) (t : Tg) (ts : List Nat) : Prop :=
  ∀ (v : V) (d : D) (σ : L2.St) (H : Hp) (ρ ρ1 : En) (μ : Mm) (m : List Addr) (Q : L2.St → Hp → Prop), Wd K ρ μ m σ H → Rep K H m d v → t d ρ = some ρ1 →
    (∀ σ1, Wd K ρ1 μ m σ1 H → σ1.length = σ.length → (∀ j, j ∉ ts → σ1[j]? = σ[j]?) → Q σ1 H) → g v σ H Q
theorem tg_name {K : PySem.W.Frag} {i : Nat} : TgOk K (gName i) (gN i) [i] := fun v d σ H ρ ρ1 μ m Q w r e q => by
  have e1 : ρ.set i (some d) = ρ1 := by simpa [gN] using e
  subst e1
  refine q _ (w.set r) (by rw [List.length_set]) fun j hj => ?_
  rw [List.getElem?_set_ne (fun z => hj (by simp [z]))]
def TgsOk (K : PySem.W.Frag) (g : TGs) (t : List Tg) (ts : List Nat) : Prop :=
  ∀ (vs : List V) (ds : List D) (σ : L2.St) (H : Hp) (ρ ρ1 : En) (μ : Mm) (m : List Addr) (Q : L2.St → Hp → Prop), Wd K ρ μ m σ H → Reps K H m ds vs → gs t ds ρ = some ρ1 →
    (∀ σ1, Wd K ρ1 μ m σ1 H → σ1.length = σ.length → (∀ j, j ∉ ts → σ1[j]? = σ[j]?) → Q σ1 H) → g vs σ H Q
theorem tgs_nil {K : PySem.W.Frag} : TgsOk K gNil [] [] := fun vs ds σ H ρ ρ1 μ m Q w r e q => by
  cases ds with
  | nil =>
    have z : vs = [] := r
    have e1 : ρ = ρ1 := by simpa [gs] using e
    subst e1
    exact ⟨z, q σ w rfl fun _ _ => rfl⟩
  | cons d l => simp [gs] at e
theorem tgs_cons {K : PySem.W.Frag} {g : TG} {gr : TGs} {t : Tg} {tr : List Tg} {ts ts2 : List Nat} (h1 : TgOk K g t ts) (h2 : TgsOk K gr tr ts2) : TgsOk K (gCons g gr) (t :: tr) (ts ++ ts2) := fun vs ds σ H ρ ρ1 μ m Q w r e q => by
  cases ds with
  | nil => simp [gs] at e
  | cons d l =>
    obtain ⟨v, vr, e1, a, b⟩ := r
    cases ht : t d ρ with
    | none => simp [gs, ht] at e
    | some ρ2 =>
      have e2 : gs tr l ρ2 = some ρ1 := by simpa [gs, ht] using e
      refine ⟨v, vr, e1, h1 v d σ H ρ ρ2 μ m _ w a ht fun σ1 w1 l1 s1 => ?_⟩
      refine h2 vr l σ1 H ρ2 ρ1 μ m _ w1 b e2 fun σ2 w2 l2 s2 => q σ2 w2 (l2.trans l1) fun j hj => ?_
      rw [s2 j (fun z => hj (List.mem_append_right _ z)), s1 j (fun z => hj (List.mem_append_left _ z))]
theorem tg_tup {K : PySem.W.Frag} {g : TGs} {t : List Tg} {ts : List Nat} {n : Nat} (h : TgsOk K g t ts) (hn : t.length = n) : TgOk K (gTup K n g) (gT t) ts := fun v d σ H ρ ρ1 μ m Q w r e q => by
  cases d with
  | tup ds =>
    obtain ⟨a, xs, e1, hs, rs⟩ := r
    have e2 : gs t ds ρ = some ρ1 := e
    have hl : ∀ (t : List Tg) (ds : List D) (ρ ρ1 : En), gs t ds ρ = some ρ1 → ds.length = t.length := by
      intro t
      induction t with
      | nil =>
        intro ds ρ ρ1 e
        cases ds with
        | nil => rfl
        | cons d l => simp [gs] at e
      | cons g r ih =>
        intro ds ρ ρ1 e
        cases ds with
        | nil => simp [gs] at e
        | cons d l =>
          cases hg : g d ρ with
          | none => simp [gs, hg] at e
          | some ρ2 =>
            have e2 : gs r l ρ2 = some ρ1 := by simpa [gs, hg] using e
            simp [ih l ρ2 ρ1 e2]
    exact ⟨a, xs, e1, hs, by rw [rs.len, hl _ _ _ _ e2, hn], h xs ds σ H ρ ρ1 μ m Q w rs e2 q⟩
  | _ => simp [gT] at e
section
variable {X : Cx} {E : L2.St → XK} {st : Stmt} {rest : List Stmt} {ψ ψ1 ψ2 : SM} {e : Expr} {φ : EM} {χ : TM} {pos : Pos}
theorem ms_nil : PSs X [] (tS X.K E sNop) := pss_nil.imp fun D1 σ H h => by
  obtain ⟨ρ, μ, m, w, h⟩ := h
  exact h σ m H Go.refl w
theorem ms_cons (h1 : PS X st (tS X.K E ψ1)) (h2 : PSs X rest (tS X.K E ψ2)) : PSs X (st :: rest) (tS X.K E (sSeq ψ1 ψ2)) := (pss_cons h1 h2).imp fun D1 σ H h => by
  obtain ⟨ρ, μ, m, w, h⟩ := h
  refine ⟨ρ, μ, m, w, ?_⟩
  unfold sSeq at h
  cases e : ψ1 ρ μ with
  | nx ρ1 μ1 =>
    rw [e] at h
    exact fun σ1 m1 H1 g w1 => ⟨ρ1, μ1, m1, w1, PostS.weak g h⟩
  | rt d μ1 => rw [e] at h; exact h
  | bk ρ1 μ1 => rw [e] at h; exact h
  | ct ρ1 μ1 => rw [e] at h; exact h
  | ex x ρ1 μ1 => rw [e] at h; exact h
  | no => rw [e] at h; exact h
theorem ms_one (h1 : PS X st (tS X.K E ψ)) : PSs X [st] (tS X.K E ψ) := pss_one h1
theorem ms_pass : PS X (.Pass pos) (tS X.K E sNop) := ps_pass.imp fun D1 σ H h => by
  obtain ⟨ρ, μ, m, w, h⟩ := h
  exact h σ m H Go.refl w
theorem ms_brk : PS X (.Break pos) (tS X.K E sBrk) := ps_break.imp fun D1 σ H h => by
  obtain ⟨ρ, μ, m, w, h⟩ := h
  exact h σ m H Go.refl w
theorem ms_cnt : PS X (.Continue pos) (tS X.K E sCnt) := ps_continue.imp fun D1 σ H h => by
  obtain ⟨ρ, μ, m, w, h⟩ := h
  exact h σ m H Go.refl w
theorem ms_expr (he : PE X e (tM X.K E φ)) (hs : swapsWith e none pos.line X.env = pure false := by rfl) : PS X (.Expr e pos) (tS X.K E (sDrop φ)) := (ps_expr he hs).imp fun D1 σ H h => by
  obtain ⟨ρ, μ, m, w, h⟩ := h
  exact ⟨ρ, μ, m, w, (Post.to (RA := Rep X.K) w h).imp fun v H1 ⟨d, μ1, m1, g, w1, ra, h2⟩ => h2 σ m1 H1 Go.refl w1⟩
theorem ms_ret (he : PE X e (tM X.K E φ)) : PS X (.Return (some e) pos) (tS X.K E (sRet φ)) := (ps_ret he).imp fun D1 σ H h => by
  obtain ⟨ρ, μ, m, w, h⟩ := h
  exact ⟨ρ, μ, m, w, (Post.to (RA := Rep X.K) w h).imp fun v H1 ⟨d, μ1, m1, g, w1, ra, h2⟩ => h2 v m1 H1 Go.refl w1.rl ra⟩
theorem ms_retN : PS X (.Return none pos) (tS X.K E sRetN) := ps_retN.imp fun D1 σ H h => by
  obtain ⟨ρ, μ, m, w, h⟩ := h
  exact h .non m H Go.refl w.rl rfl
theorem ms_if {c : Expr} {a b : List Stmt} (hc : PT X c (tT X.K E χ)) (ha : PSs X a (tS X.K E ψ1)) (hb : PSs X b (tS X.K E ψ2)) : PS X (.If c a b pos) (tS X.K E (sIf χ ψ1 ψ2)) := (ps_if hc ha hb).imp fun D1 σ H h => by
  obtain ⟨ρ, μ, m, w, h⟩ := h
  refine ⟨ρ, μ, m, w, (Post.to (RA := RB) w h).imp fun v H1 ⟨d, μ1, m1, g, w1, ra, h2⟩ => ?_⟩
  cases (show v = d from ra)
  cases v with
  | true => exact ⟨ρ, μ1, m1, w1, h2⟩
  | false => exact ⟨ρ, μ1, m1, w1, h2⟩
theorem ms_asg {tg : Expr} {g : TG} {t : Tg} {ts : List Nat} (he : PE X e (tM X.K E φ)) (hg : PG X tg g) (ht : TgOk X.K g t ts) (hs : swapsWithSole [tg] e pos.line X.env = pure false := by rfl) (hw : swappedStores [tg] e X.env = pure none := by rfl) (h1 : (assignEach [tg] X.env).map (·.2) = [assign tg X.env] := by rfl) :
    PS X (.Assign [tg] e pos) (tS X.K E (sAsg φ t)) := (ps_asg he hg hs hw h1).imp fun D1 σ H h => by
  obtain ⟨ρ, μ, m, w, h⟩ := h
  refine ⟨ρ, μ, m, w, (Post.to (RA := Rep X.K) w h).imp fun v H1 ⟨d, μ1, m1, g1, w1, ra, h2⟩ => ?_⟩
  cases e2 : t d ρ with
  | none => simp only [e2] at h2; exact h2.elim
  | some ρ1 =>
    simp only [e2] at h2
    exact ht v d σ H1 ρ ρ1 μ1 m1 _ w1 ra e2 fun σ1 w2 _ _ => h2 σ1 m1 H1 Go.refl w2
/-- x += e, x a name -/
def sAug (i : Nat) (f : D → D → M D) (a : EM) : SM := fun ρ μ => match ρ[i]? with
  | some (some x) => RS.bind (M.thn (a ρ) (f x) μ) ρ fun d μ1 => .nx (ρ.set i (some d)) μ1
  | _ => .no
theorem ms_aug {i : Nat} {x : Str} {op : Operator} {ti : TIp} {f : D → D → M D} {pos' : Pos} (hN : X.N.Nodup) (hi : X.N[i]? = some x) (hx : Loc X.env.scope x) (he : PE X e (tM X.K E φ)) (ho : PIp X op ti) (hs : S2 X.K ti f) (hf : X.fn x = true ∨ X.env.scope.names.lookup x = some .local := by first | exact .inl rfl | exact .inr rfl | assumption) :
    PS X (.AugAssign (.Name x pos') op e pos) (tS X.K E (sAug i f φ)) := (ps_aug hN hi hx he ho hf).imp fun D1 σ H h => by
  obtain ⟨ρ, μ, m, w, h⟩ := h
  unfold sAug at h
  cases e : ρ[i]? with
  | none => simp only [e] at h; exact h.elim
  | some o =>
    cases o with
    | none => simp only [e] at h; exact h.elim
    | some d =>
      simp only [e] at h
      obtain ⟨v, q1, q2⟩ := w.env i d e
      refine ⟨v, q1, ρ, μ, m, w, ?_⟩
      refine (Post.thn (RA := Rep X.K) (Post.to (RA := Rep X.K) w h)).imp fun u H1 ⟨y, μ1, m1, g1, r1, ry, h1⟩ => ?_
      refine hs _ d y μ1 m1 H1 v u _ r1 (Rep.mono g1 _ _ q2) ry (h1.imp fun z H2 ⟨d2, μ2, m2, g2, w2, rz, h2⟩ => ?_)
      exact h2 _ m2 H2 Go.refl (w2.set rz)
end
end ML
namespace ML
open PySem PySem.Spec PyProof.Rows L2
/-! ### what a loop walks: at turn i of a store, an item, or the end -/
abbrev DI := Mm → Nat → Option (Option D)
def ItOk (K : PySem.W.Frag) (H0 : Hp) (m0 : List Addr) (it : DI) (J : It) : Prop :=
  ∀ (i : Nat) (μ : Mm) (m : List Addr) (H : Hp), Go K H0 m0 H m → Rl K μ m H → match it μ i with
    | none => True
    | some none => J.stop i H
    | some (some d) => J.go i H ∧ ∀ x H1, J.yld i H x H1 → Go K H m H1 m ∧ Rl K μ m H1 ∧ Rep K H1 m d x
theorem ItOk.weak {K : PySem.W.Frag} {H H1 : Hp} {m m1 : List Addr} {it : DI} {J : It} (h : ItOk K H m it J) (g : Go K H m H1 m1) : ItOk K H1 m1 it J := fun i μ m2 H2 g2 r => h i μ m2 H2 (g.trans g2) r
abbrev tI (K : PySem.W.Frag) (E : L2.St → XK) (ι : En → M DI) : TI := tG K (ItOk K) E ι
def itS (n : Nat) : DI := fun μ i => match μ[n]? with
  | some (.lst l) => some l[i]?
  | _ => none
def itT (l : List D) : DI := fun _ i => some l[i]?
def itR (lo : Int) (n : Nat) : DI := fun _ i => some (if i < n then some (.int (lo + i)) else none)
def itZ (a b : DI) : DI := fun μ i => match a μ i, b μ i with
  | some (some x), some (some y) => some (some (.tup [x, y]))
  | some none, some _ => some none
  | some _, some none => some none
  | _, _ => none
def isSeq (n : Nat) (μ : Mm) : Bool := match μ[n]? with
  | some (.lst _) => true
  | _ => false
/-- iter of a list or tuple -/
def itOf : D → M DI
  | .ref n => fun μ => if isSeq n μ then .ok (itS n) μ else .no
  | .tup l => M.ret (itT l)
  | .sq l => M.ret (itT l)
  | _ => M.stop
def okR (j : Int) : Bool := decide (-(2 ^ 62) ≤ j) && decide (j < 2 ^ 62)
def rng1 : List D → M DI
  | [.int j] => if okR j then M.ret (itR 0 j.toNat) else M.stop
  | _ => M.stop
def rng2 : List D → M DI
  | [.int i, .int j] => if okR i && okR j then M.ret (itR i (j - i).toNat) else M.stop
  | _ => M.stop
def zipOf : List D → M DI
  | [.ref a, .ref b] => fun μ => if isSeq a μ && isSeq b μ then .ok (itZ (itS a) (itS b)) μ else .no
  | [.tup a, .tup b] => M.ret (itZ (itT a) (itT b))
  | _ => M.stop
section
variable {K : PySem.W.Frag} {H : Hp} {m : List Addr} {μ : Mm}
theorem seq_get (r : Rl K μ m H) {n : Nat} {l : List D} (h : μ[n]? = some (.lst l)) : ∃ a xs, m[n]? = some a ∧ SqL K H a xs ∧ Reps K H m l xs := by
  obtain ⟨a, h1, xs, h2, h3⟩ := r.at h
  exact ⟨a, xs, h1, SqL.of h2, h3⟩
theorem isSeq_get {n : Nat} (h : isSeq n μ = true) : ∃ l, μ[n]? = some (.lst l) := by
  unfold isSeq at h
  split at h
  · exact ⟨_, by assumption⟩
  · cases h
/-- the items that a turn reads off a list of the store -/
theorem itS_ok {n : Nat} {i : Nat} (r : Rl K μ m H) {o : Option D} (h : itS n μ i = some o) : ∃ a xs l, m[n]? = some a ∧ SqL K H a xs ∧ Reps K H m l xs ∧ o = l[i]? := by
  unfold itS at h
  split at h
  · obtain ⟨a, xs, q1, q2, q3⟩ := seq_get r (n := n) (by assumption)
    exact ⟨a, xs, _, q1, q2, q3, (Option.some.inj h).symm⟩
  · cases h
theorem it_list {H0 : Hp} {m0 : List Addr} {n : Nat} {a : Addr} (ha : m0[n]? = some a) : ItOk K H0 m0 (itS n) (Itl K a) := fun i μ m H g r => by
  cases e : itS n μ i with
  | none => trivial
  | some o =>
    obtain ⟨a', xs, l, q1, q2, q3, q4⟩ := itS_ok r e
    have z : a' = a := Option.some.inj (q1.symm.trans (g.ext n a ha))
    subst z
    cases o with
    | none =>
      have hl : l.length ≤ i := List.getElem?_eq_none_iff.mp q4.symm
      exact ⟨xs, q2, by rw [q3.len]; exact hl⟩
    | some d =>
      obtain ⟨v, v1, v2⟩ := q3.get q4.symm
      refine ⟨⟨xs, v, q2, v1⟩, fun x H1 y => ?_⟩
      obtain ⟨y1, y2⟩ := y
      subst y1
      have z : x = v := Option.some.inj ((y2 xs q2).symm.trans v1)
      subst z
      exact ⟨Go.refl, r, v2⟩
theorem it_tup {H0 : Hp} {m0 : List Addr} {l : List D} {a : Addr} {xs : List V} (ht : SqT K H0 a xs) (hr : Reps K H0 m0 l xs) : ItOk K H0 m0 (itT l) (Itt K a) := fun i μ m H g r => by
  have q2 := g.tup a xs ht
  have q3 := Reps.mono g l xs hr
  show match (some l[i]? : Option (Option D)) with
    | none => True
    | some none => (Itt K a).stop i H
    | some (some d) => (Itt K a).go i H ∧ ∀ x H1, (Itt K a).yld i H x H1 → Go K H m H1 m ∧ Rl K μ m H1 ∧ Rep K H1 m d x
  cases e : l[i]? with
  | none => exact ⟨xs, q2, by rw [q3.len]; exact List.getElem?_eq_none_iff.mp e⟩
  | some d =>
    obtain ⟨v, v1, v2⟩ := q3.get e
    refine ⟨⟨xs, v, q2, v1⟩, fun x H1 y => ?_⟩
    obtain ⟨y1, y2⟩ := y
    subst y1
    have z : x = v := Option.some.inj ((y2 xs q2).symm.trans v1)
    subst z
    exact ⟨Go.refl, r, v2⟩
theorem it_frz {H0 : Hp} {m0 : List Addr} {l : List D} {a : Addr} {xs : List V} (ht : SqF K H0 a xs) (hr : Reps K H0 m0 l xs) : ItOk K H0 m0 (itT l) (Itl K a) := fun i μ m H g r => by
  have q2 := (g.frz a xs ht).l
  have q3 := Reps.mono g l xs hr
  show match (some l[i]? : Option (Option D)) with
    | none => True
    | some none => (Itl K a).stop i H
    | some (some d) => (Itl K a).go i H ∧ ∀ x H1, (Itl K a).yld i H x H1 → Go K H m H1 m ∧ Rl K μ m H1 ∧ Rep K H1 m d x
  cases e : l[i]? with
  | none => exact ⟨xs, q2, by rw [q3.len]; exact List.getElem?_eq_none_iff.mp e⟩
  | some d =>
    obtain ⟨v, v1, v2⟩ := q3.get e
    refine ⟨⟨xs, v, q2, v1⟩, fun x H1 y => ?_⟩
    obtain ⟨y1, y2⟩ := y
    subst y1
    have z : x = v := Option.some.inj ((y2 xs q2).symm.trans v1)
    subst z
    exact ⟨Go.refl, r, v2⟩
theorem it_rng {H0 : Hp} {m0 : List Addr} {lo : Int} {n : Nat} : ItOk K H0 m0 (itR lo n) (Itr lo n) := fun i μ m H g r => by
  unfold itR
  by_cases h : i < n
  · rw [if_pos h]
    refine ⟨h, fun x H1 y => ?_⟩
    obtain ⟨y1, y2⟩ := y
    subst y1
    exact ⟨Go.refl, r, y2⟩
  · rw [if_neg h]
    exact Nat.le_of_not_lt h
theorem pair_new {x y : D} {v u : V} {T : Addr} (r : Rl K μ m H) (hx : Rep K H m x v) (hy : Rep K H m y u) (hT : H T = none) : Go K H m (upd H T (.tup [v, u])) m ∧ Rl K μ m (upd H T (.tup [v, u])) ∧ Rep K (upd H T (.tup [v, u])) m (.tup [x, y]) (.ref T) :=
  ⟨Go.side hT, r.side hT, T, [v, u], rfl, SqT.of upd_same, Reps.mono (Go.side hT) _ _ (Reps.cons hx (Reps.one hy))⟩
theorem it_zipL {H0 : Hp} {m0 : List Addr} {p q : Nat} {a b : Addr} (ha : m0[p]? = some a) (hb : m0[q]? = some b) : ItOk K H0 m0 (itZ (itS p) (itS q)) (Itz K a b) := fun i μ m H g r => by
  unfold itZ
  cases e1 : itS p μ i with
  | none => cases itS q μ i <;> trivial
  | some o1 =>
    cases e2 : itS q μ i with
    | none => cases o1 <;> trivial
    | some o2 =>
      obtain ⟨a', xs, l, q1, q2, q3, q4⟩ := itS_ok r e1
      have z : a' = a := Option.some.inj (q1.symm.trans (g.ext p a ha))
      subst z
      obtain ⟨b', ys, k, p1, p2, p3, p4⟩ := itS_ok r e2
      have z : b' = b := Option.some.inj (p1.symm.trans (g.ext q b hb))
      subst z
      cases o1 with
      | none =>
        have hl : l.length ≤ i := List.getElem?_eq_none_iff.mp q4.symm
        have : (Itz K a' b').stop i H := ⟨xs, ys, q2, p2, .inl (by rw [q3.len]; exact hl)⟩
        cases o2 <;> exact this
      | some d1 =>
        cases o2 with
        | none =>
          have hl : k.length ≤ i := List.getElem?_eq_none_iff.mp p4.symm
          exact ⟨xs, ys, q2, p2, .inr (by rw [p3.len]; exact hl)⟩
        | some d2 =>
          obtain ⟨v, v1, v2⟩ := q3.get q4.symm
          obtain ⟨u, u1, u2⟩ := p3.get p4.symm
          refine ⟨⟨xs, ys, v, u, q2, p2, v1, u1⟩, fun x H1 y => ?_⟩
          obtain ⟨T, x', y', rfl, hT, rfl, f1, f2⟩ := y
          have z1 : x' = v := Option.some.inj ((f1 xs q2).symm.trans v1)
          have z2 : y' = u := Option.some.inj ((f2 ys p2).symm.trans u1)
          subst z1; subst z2
          exact pair_new r v2 u2 hT
theorem it_zipT {H0 : Hp} {m0 : List Addr} {l k : List D} {a b : Addr} {xs ys : List V} (ha : SqT K H0 a xs) (hra : Reps K H0 m0 l xs) (hb : SqT K H0 b ys) (hrb : Reps K H0 m0 k ys) : ItOk K H0 m0 (itZ (itT l) (itT k)) (RZ.ItzT K a b) := fun i μ m H g r => by
  have q2 := g.tup a xs ha
  have q3 := Reps.mono g l xs hra
  have p2 := g.tup b ys hb
  have p3 := Reps.mono g k ys hrb
  unfold itZ itT
  cases e1 : l[i]? with
  | none =>
    have : (RZ.ItzT K a b).stop i H := ⟨xs, ys, q2, p2, .inl (by rw [q3.len]; exact List.getElem?_eq_none_iff.mp e1)⟩
    cases e2 : k[i]? <;> exact this
  | some d1 =>
    cases e2 : k[i]? with
    | none => exact ⟨xs, ys, q2, p2, .inr (by rw [p3.len]; exact List.getElem?_eq_none_iff.mp e2)⟩
    | some d2 =>
      obtain ⟨v, v1, v2⟩ := q3.get e1
      obtain ⟨u, u1, u2⟩ := p3.get e2
      refine ⟨⟨xs, ys, v, u, q2, p2, v1, u1⟩, fun x H1 y => ?_⟩
      obtain ⟨T, x', y', rfl, hT, rfl, f1, f2⟩ := y
      have z1 : x' = v := Option.some.inj ((f1 xs q2).symm.trans v1)
      have z2 : y' = u := Option.some.inj ((f2 ys p2).symm.trans u1)
      subst z1; subst z2
      exact pair_new r v2 u2 hT
end
section
variable {X : Cx} {E : L2.St → XK} {tg : Expr} {φ : EM} {φa : AM}
theorem pi_seq {l : Expr} {tl : TE} (hl : PE X l tl) : PI X tg l (fun σ H R => tl σ H fun x H1 => (∃ a, x = .ref a ∧ (∃ xs, SqL X.K H1 a xs) ∧ R (Itl X.K a) H1) ∨ (∃ a, x = .ref a ∧ (∃ xs, SqT X.K H1 a xs) ∧ R (Itt X.K a) H1)) := by
  constructor
  intro pins s σ H R I h
  refine thn (hl.run pins s σ H _ I h) ?_
  rintro v s1 ⟨x, H1, I1, r1, q1⟩
  have fresh : ∀ b ∈ [s1.heap.objs.size], FpOk X pins H1 b := fun b hb => by
    cases (List.mem_singleton.mp hb)
    exact I1.fpOk (Nat.le_refl _) (I1.hok.fresh (Nat.le_refl _))
  rcases q1 with ⟨a, rfl, ⟨xs, hq⟩, q⟩ | ⟨a, rfl, ⟨xs, hq⟩, q⟩
  · cases r1
    obtain ⟨its, rv, p, hz⟩ := I1.list hq
    exact wpAny_pyIter_list p.isList ⟨_, [s1.heap.objs.size], _, _, H1, rfl, I1.kept (t' := s1.toks) fun b o e => Heap.get?_push_of_some _ e, turn_list a _, ⟨_, Heap.get?_push_size _ rfl, rfl, rfl⟩, fresh, q⟩
  · cases r1
    obtain ⟨its, rv, p, hz⟩ := I1.tuple hq
    exact wpAny_pyIter_tuple (show s1.heap.IsTuple a its.toArray from p) ⟨_, [s1.heap.objs.size], _, _, H1, rfl, I1.kept (t' := s1.toks) fun b o e => Heap.get?_push_of_some _ e, turn_tuple a _, ⟨_, Heap.get?_push_size _ rfl, rfl, rfl⟩, fresh, q⟩
theorem mi_seq {l : Expr} (hl : PE X l (tM X.K E φ)) : PI X tg l (tI X.K E fun ρ => M.thn (φ ρ) itOf) := (pi_seq hl).imp fun σ H Q h => by
  obtain ⟨ρ, μ, m, w, h⟩ := h
  refine ⟨ρ, μ, m, w, (Post.thn (RA := Rep X.K) h).imp fun v H1 ⟨d, μ1, m1, g, r, ra, h2⟩ => ?_⟩
  cases d with
  | ref n =>
    by_cases hs : isSeq n μ1 = true
    · obtain ⟨l, hl⟩ := isSeq_get hs
      obtain ⟨a, xs, q1, q2, q3⟩ := seq_get r hl
      obtain ⟨a', e1, e2⟩ := ra
      have z : a' = a := Option.some.inj (e2.symm.trans q1)
      subst z
      refine .inl ⟨a', e1, ⟨xs, q2⟩, ?_⟩
      unfold itOf at h2
      simp only [hs, if_true] at h2
      exact h2 _ m1 H1 Go.refl r (it_list q1)
    · unfold itOf at h2
      simp only [hs] at h2
      exact h2.elim
  | tup l =>
    obtain ⟨a, xs, e1, q2, q3⟩ := ra
    exact .inr ⟨a, e1, ⟨xs, q2⟩, h2 _ m1 H1 Go.refl r (it_tup q2 q3)⟩
  | sq l =>
    obtain ⟨a, xs, e1, q2, q3⟩ := ra
    exact .inl ⟨a, e1, ⟨xs, q2.l⟩, h2 _ m1 H1 Go.refl r (it_frz q2 q3)⟩
  | _ => exact h2.elim
theorem mi_range1 {a : Expr} {p pos : Pos} (hg : Gl X "range") (hm : X.mg "range" = none) (ha : PA X [a] (tA X.K E φa)) (hs : starEach [a] X.env = [(false, eval a X.env)] := by rfl) : PI X tg (.Call (.Name "range" p) [a] [] pos) (tI X.K E fun ρ => M.thn (φa ρ) rng1) :=
  (pi_range1 hg hm ha hs).imp fun σ H Q h => by
    obtain ⟨ρ, μ, m, w, h⟩ := h
    refine ⟨ρ, μ, m, w, (Post.thn (RA := Reps X.K) h).imp fun v H1 ⟨d, μ1, m1, g, r, ra, h2⟩ => ?_⟩
    unfold rng1 at h2
    split at h2
    · rename_i j
      obtain ⟨v1, vr, e1, e2, e3⟩ := ra
      cases (show v1 = .int j from e2)
      cases (show vr = [] from e3)
      by_cases hj : okR j = true
      · have hb : (-(2 ^ 62) ≤ j) ∧ j < 2 ^ 62 := by simpa [okR] using hj
        rw [if_pos hj] at h2
        exact ⟨j, e1, hb.1, hb.2, h2 _ m1 H1 Go.refl r it_rng⟩
      · rw [if_neg hj] at h2
        exact h2.elim
    · exact h2.elim
theorem mi_range2 {a b : Expr} {p pos : Pos} (hg : Gl X "range") (hm : X.mg "range" = none) (ha : PA X [a, b] (tA X.K E φa)) (hs : starEach [a, b] X.env = [(false, eval a X.env), (false, eval b X.env)] := by rfl) (hs2 : starEach [b] X.env = [(false, eval b X.env)] := by rfl) :
    PI X tg (.Call (.Name "range" p) [a, b] [] pos) (tI X.K E fun ρ => M.thn (φa ρ) rng2) :=
  (pi_range2 hg hm ha hs hs2).imp fun σ H Q h => by
    obtain ⟨ρ, μ, m, w, h⟩ := h
    refine ⟨ρ, μ, m, w, (Post.thn (RA := Reps X.K) h).imp fun v H1 ⟨d, μ1, m1, g, r, ra, h2⟩ => ?_⟩
    unfold rng2 at h2
    split at h2
    · rename_i i j
      obtain ⟨v1, vr, e1, e2, v2, vr2, e4, e5, e6⟩ := ra
      cases (show v1 = .int i from e2)
      cases (show v2 = .int j from e5)
      cases (show vr2 = [] from e6)
      subst e4
      by_cases hj : (okR i && okR j) = true
      · have hb : ((-(2 ^ 62) ≤ i) ∧ i < 2 ^ 62) ∧ (-(2 ^ 62) ≤ j) ∧ j < 2 ^ 62 := by simpa [okR] using hj
        rw [if_pos hj] at h2
        exact ⟨i, j, e1, ⟨hb.1.1, hb.1.2, hb.2.1, hb.2.2⟩, h2 _ m1 H1 Go.refl r it_rng⟩
      · rw [if_neg hj] at h2
        exact h2.elim
    · exact h2.elim
theorem zipOf_cases : ∀ d : List D, (∃ p q, d = [.ref p, .ref q]) ∨ (∃ l k, d = [.tup l, .tup k]) ∨ zipOf d = M.stop
  | [] => .inr (.inr rfl)
  | [x] => by cases x <;> exact .inr (.inr rfl)
  | [x, y] => by
    cases x <;> cases y <;> first | exact .inr (.inr rfl) | exact .inl ⟨_, _, rfl⟩ | exact .inr (.inl ⟨_, _, rfl⟩)
  | x :: y :: z :: r => by
    cases x <;> cases y <;> exact .inr (.inr rfl)
theorem mi_zip {a b : Expr} {p pos tpos : Pos} {elts : List Expr} {kk : Nat} (hg : Gl X "zip") (hm : X.mg "zip" = none) (ha : PA X [a, b] (tA X.K E φa)) (hs : starEach [a, b] X.env = (false, eval a X.env) :: starEach [b] X.env := by rfl)
    (hpl : (backTo pos (starEach [b] X.env)).any (·.1) = false := by rfl) : PI X (.Tuple elts kk tpos) (.Call (.Name "zip" p) [a, b] [] pos) (tI X.K E fun ρ => M.thn (φa ρ) zipOf) :=
  (RZ.pi_zipA hg hm ha hs hpl).imp fun σ H Q h => by
    obtain ⟨ρ, μ, m, w, h⟩ := h
    refine ⟨ρ, μ, m, w, (Post.thn (RA := Reps X.K) h).imp fun v H1 ⟨d, μ1, m1, g, r, ra, h2⟩ => ?_⟩
    rcases zipOf_cases d with ⟨p, q, rfl⟩ | ⟨l, k, rfl⟩ | hd
    · have h2 : Post X.K (ItOk X.K) (E σ) m1 H1 (if (isSeq p μ1 && isSeq q μ1) = true then R.ok (itZ (itS p) (itS q)) μ1 else R.no) Q := h2
      obtain ⟨v1, vr, e1, ⟨a, e2, e2'⟩, v2, vr2, e4, ⟨b, e5, e5'⟩, e6⟩ := ra
      cases (show vr2 = [] from e6)
      subst e4 e2 e5
      by_cases hs : (isSeq p μ1 && isSeq q μ1) = true
      · simp only [hs, if_true] at h2
        have hs2 : isSeq p μ1 = true ∧ isSeq q μ1 = true := by simpa using hs
        obtain ⟨l, hl⟩ := isSeq_get hs2.1
        obtain ⟨k, hk⟩ := isSeq_get hs2.2
        obtain ⟨a', xs, q1, q2, q3⟩ := seq_get r hl
        obtain ⟨b', ys, p1, p2, p3⟩ := seq_get r hk
        have z : a' = a := Option.some.inj (q1.symm.trans e2')
        subst z
        have z : b' = b := Option.some.inj (p1.symm.trans e5')
        subst z
        exact ⟨a', b', xs, ys, e1, .inl ⟨q2, p2, h2 _ m1 H1 Go.refl r (it_zipL q1 p1)⟩⟩
      · simp only [hs] at h2
        exact h2.elim
    · obtain ⟨v1, vr, e1, ⟨a, xs, e2, q2, q3⟩, v2, vr2, e4, ⟨b, ys, e5, p2, p3⟩, e6⟩ := ra
      cases (show vr2 = [] from e6)
      subst e4 e2 e5
      exact ⟨a, b, xs, ys, e1, .inr ⟨q2, p2, h2 _ m1 H1 Go.refl r (it_zipT q2 q3 p2 p3)⟩⟩
    · rw [hd] at h2
      exact h2.elim
/-! ### for -/
def loop (it : DI) (g : Tg) (body : SM) : Nat → Nat → SM
  | 0, _ => fun _ _ => .no
  | f + 1, i => fun ρ μ => match it μ i with
    | none => .no
    | some none => .nx ρ μ
    | some (some d) => match g d ρ with
      | none => .no
      | some ρ1 => match body ρ1 μ with
        | .nx ρ2 μ2 => loop it g body f (i + 1) ρ2 μ2
        | .ct ρ2 μ2 => loop it g body f (i + 1) ρ2 μ2
        | .bk ρ2 μ2 => .nx ρ2 μ2
        | .rt d2 μ2 => .rt d2 μ2
        | .ex e ρ2 μ2 => .ex e ρ2 μ2
        | .no => .no
/-- a number of turns that nothing reckons with but by its bound -/
noncomputable def FUEL : Nat := (Classical.choice ⟨(⟨1000000, rfl⟩ : {n : Nat // n = 1000000})⟩).1
theorem FUEL_eq : FUEL = 1000000 := (Classical.choice ⟨(⟨1000000, rfl⟩ : {n : Nat // n = 1000000})⟩).2
noncomputable def sFor (ι : En → M DI) (g : Tg) (body : SM) : SM := fun ρ μ => RS.bind (ι ρ μ) ρ fun it μ1 => loop it g body FUEL 0 ρ μ1
variable {iter : Expr} {ι : En → M DI} {g : TG} {t : Tg} {ts : List Nat} {body : List Stmt} {ψ : SM} {pos : Pos}
theorem ms_for (hp : PassesOwn (model X.prog X.w) X.A X.env X.xe) (hc : X.calm = true) (hi : PI X tg iter (tI X.K E ι)) (hg : PG X tg g) (ht : TgOk X.K g t ts) (hb : PSs X body (tS X.K E ψ)) (hs : ∀ x, foldedSetIterable iter X.env x = Pure.pure x := by intro _; rfl) :
    PS X (.For tg iter body [] pos) (tS X.K E (sFor ι t ψ)) := (ps_for hp hc hi hg hb hs).imp fun D1 σ H h => by
  obtain ⟨ρ, μ, m, w, h⟩ := h
  refine ⟨ρ, μ, m, w, (Post.to (RA := ItOk X.K) w h).imp fun J H1 ⟨it, μ1, m1, g1, w1, hJ, h2⟩ => ?_⟩
  refine ⟨fun i f σ H => ∃ ρ μ m, Go X.K H1 m1 H m ∧ Wd X.K ρ μ m σ H ∧ PostS X.K E m H (loop it t ψ f i ρ μ) D1, ⟨FUEL, ρ, μ1, m1, Go.refl, w1, h2⟩, ?_⟩
  rintro i f σ H ⟨ρ, μ, m, g0, w, h⟩
  cases f with
  | zero => exact h.elim
  | succ f =>
    unfold loop at h
    have hi := hJ i μ m H g0 w.rl
    cases e : it μ i with
    | none => simp only [e] at h; exact h.elim
    | some o =>
      rw [e] at hi
      cases o with
      | none =>
        simp only [e] at h
        exact .inl ⟨hi, h σ m H Go.refl w⟩
      | some d =>
        simp only [e] at h
        refine .inr ⟨hi.1, fun σ H => ∃ ρ μ m, Go X.K H1 m1 H m ∧ Wd X.K ρ μ m σ H ∧ PostS X.K E m H (loop it t ψ f (i + 1) ρ μ) D1, fun σ' H' n => ⟨f, Nat.lt_succ_self f, n⟩, fun x H' y => ?_⟩
        obtain ⟨g2, r2, rx⟩ := hi.2 x H' y
        cases e2 : t d ρ with
        | none => simp only [e2] at h; exact h.elim
        | some ρ1 =>
          simp only [e2] at h
          refine ht x d σ H' ρ ρ1 μ m _ (w.mono g2 r2) rx e2 fun σ1 w2 _ _ => ⟨ρ1, μ, m, w2, ?_⟩
          cases e3 : ψ ρ1 μ with
          | nx ρ2 μ2 =>
            simp only [e3] at h
            exact fun σ3 m3 H3 g3 w3 => ⟨ρ2, μ2, m3, (g0.trans g2).trans g3, w3, PostS.weak (g2.trans g3) h⟩
          | ct ρ2 μ2 =>
            simp only [e3] at h
            exact fun σ3 m3 H3 g3 w3 => ⟨ρ2, μ2, m3, (g0.trans g2).trans g3, w3, PostS.weak (g2.trans g3) h⟩
          | bk ρ2 μ2 =>
            simp only [e3] at h
            exact fun σ3 m3 H3 g3 w3 => h σ3 m3 H3 (g2.trans g3) w3
          | rt d2 μ2 =>
            simp only [e3] at h
            exact fun v m3 H3 g3 r3 q => h v m3 H3 (g2.trans g3) r3 q
          | ex x2 ρ2 μ2 =>
            simp only [e3] at h
            exact fun σ3 dd m3 H3 g3 w3 q => h σ3 dd m3 H3 (g2.trans g3) w3 q
          | no => simp only [e3] at h; exact h.elim
end
end ML
namespace ML
open PySem PySem.Spec PyProof.Rows L2
/-! ### comprehensions -/
abbrev EN : L2.St → XK := EN0
def wipeD (ρ : En) : List Nat → En
  | [] => ρ
  | v :: vs => (wipeD ρ vs).set v none
def lcLoop (it : DI) (g : Tg) (c : TM) (e : EM) (n : Nat) (ρ0 : En) : Nat → Nat → M Unit
  | 0, _ => fun _ => .no
  | f + 1, i => fun μ => match it μ i with
    | none => .no
    | some none => .ok () μ
    | some (some d) => match g d ρ0 with
      | none => .no
      | some ρ1 => match c ρ1 μ with
        | .ok k μ1 => if k then (match e ρ1 μ1 with
            | .ok y μ2 => (match μ2[n]? with
              | some (.lst acc) => if acc.length < sizeLine then lcLoop it g c e n ρ0 f (i + 1) (μ2.set n (.lst (acc ++ [y]))) else .no
              | _ => .no)
            | _ => .no) else lcLoop it g c e n ρ0 f (i + 1) μ1
        | _ => .no
noncomputable def eLc (ι : En → M DI) (g : Tg) (c : TM) (e : EM) (vs : List Nat) : EM := fun ρ => M.thn (ι ρ) fun it μ =>
  match lcLoop it g c e μ.length (wipeD ρ vs) FUEL 0 (μ ++ [.lst []]) with
  | .ok _ μ1 => .ok (.ref μ.length) μ1
  | _ => .no
def cYes : TM := fun _ => M.ret true
section
variable {K : PySem.W.Frag} {E : L2.St → XK} {m : List Addr} {H : Hp} {μ : Mm} {ρ : En} {σ : L2.St}
theorem wipe_get (σ : L2.St) : ∀ (vs : List Nat) (i : Nat), (wipe σ vs)[i]? = if i ∈ vs then (if i < σ.length then some none else none) else σ[i]?
  | [], i => by simp [wipe]
  | v :: vs, i => by
    unfold wipe
    rw [List.getElem?_set]
    by_cases h : v = i
    · subst h
      by_cases hl : v < σ.length <;> simp [wipe_length, hl]
    · have h2 : i ≠ v := fun z => h z.symm
      simp only [h, if_false, wipe_get σ vs i, List.mem_cons, h2, false_or]
theorem wipeD_get (ρ : En) : ∀ (vs : List Nat) (i : Nat), (wipeD ρ vs)[i]? = if i ∈ vs then (if i < ρ.length then some none else none) else ρ[i]?
  | [], i => by simp [wipeD]
  | v :: vs, i => by
    have hl : ∀ vs : List Nat, (wipeD ρ vs).length = ρ.length := by
      intro vs
      induction vs with
      | nil => rfl
      | cons a r ih => unfold wipeD; rw [List.length_set, ih]
    unfold wipeD
    rw [List.getElem?_set]
    by_cases h : v = i
    · subst h
      by_cases hl2 : v < ρ.length <;> simp [hl, hl2]
    · have h2 : i ≠ v := fun z => h z.symm
      simp only [h, if_false, wipeD_get ρ vs i, List.mem_cons, h2, false_or]
theorem wipeD_length (ρ : En) : ∀ vs : List Nat, (wipeD ρ vs).length = ρ.length
  | [] => rfl
  | v :: vs => by unfold wipeD; rw [List.length_set, wipeD_length ρ vs]
theorem Wd.wipe (w : Wd K ρ μ m σ H) (vs : List Nat) : Wd K (wipeD ρ vs) μ m (L2.wipe σ vs) H := by
  refine ⟨fun i d e => ?_, by rw [wipeD_length, wipe_length]; exact w.len, w.rl⟩
  rw [wipeD_get] at e
  by_cases hi : i ∈ vs
  · rw [if_pos hi] at e
    by_cases hl : i < ρ.length
    · rw [if_pos hl] at e; cases e
    · rw [if_neg hl] at e; cases e
  · rw [if_neg hi] at e
    obtain ⟨v, q1, q2⟩ := w.env i d e
    exact ⟨v, by rw [wipe_get, if_neg hi]; exact q1, q2⟩
/-- a target that stores within the wiped slots is wiped again -/
theorem wipe_again {σ σ1 : L2.St} {vs ts : List Nat} (hl : σ1.length = (L2.wipe σ vs).length) (hs : ∀ j, j ∉ ts → σ1[j]? = (L2.wipe σ vs)[j]?) (ht : ∀ j ∈ ts, j ∈ vs) : L2.wipe σ1 vs = L2.wipe σ vs := by
  refine List.ext_getElem? fun i => ?_
  rw [wipe_get]
  by_cases hi : i ∈ vs
  · rw [if_pos hi, wipe_get, if_pos hi, hl, wipe_length]
  · rw [if_neg hi, hs i fun z => hi (ht i z)]
end
section
variable {X : Cx} {E : L2.St → XK} {elt tg iter : Expr} {ifs : List Expr} {scope : Scope} {own : List (Str × Nat)} {pos : Pos} {g : TG} {t : Tg} {ts : List Nat} {ι : En → M DI} {φ : EM} {χ : TM}
theorem mts_nil {Y : Cx} : PTs Y [] (tT Y.K EN cYes) := ⟨fun pins s σ H Q I h => by
  obtain ⟨ρ, μ, m, w, h⟩ := h
  exact pts_nil.run pins s σ H Q I (show Q true H from h true m H Go.refl w.rl rfl)⟩
theorem mts_one {Y : Cx} {c : Expr} (h : PT Y c (tT Y.K EN χ)) : PTs Y [c] (tT Y.K EN χ) := pts_one h
theorem lc_step {σ : L2.St} {H : Hp} {Q : VK} {vs : List Nat} (ht : TgOk X.K g t ts) (hts : ∀ j ∈ ts, j ∈ vs)
    (h : tM X.K E (eLc ι t χ φ vs) σ H Q) : tLc (tI X.K E ι) g (tT X.K EN χ) (tM X.K EN φ) vs σ H Q := by
  obtain ⟨ρ, μ, m, w, h⟩ := h
  refine ⟨ρ, μ, m, w, (Post.thn (RA := ItOk X.K) h).imp fun J H1 ⟨it, μ1, m1, g1, r1, hJ, h2⟩ => ?_⟩
  intro Dl hD
  have gn : Go X.K H1 m1 (upd H1 Dl (.lst [])) (m1 ++ [Dl]) := Go.new hD
  have rn : Rl X.K (μ1 ++ [.lst []]) (m1 ++ [Dl]) (upd H1 Dl (.lst [])) := r1.new hD rfl
  have hDl : (m1 ++ [Dl])[μ1.length]? = some Dl := by
    rw [← r1.len, List.getElem?_append_right (Nat.le_refl _), Nat.sub_self]
    rfl
  -- what is wanted behind the loop
  have fin : ∃ u μ2, lcLoop it t χ φ μ1.length (wipeD ρ vs) FUEL 0 (μ1 ++ [.lst []]) = .ok u μ2 ∧ ∀ m2 H2, Go X.K H1 m1 H2 m2 → Rl X.K μ2 m2 H2 → m2[μ1.length]? = some Dl → Q (.ref Dl) H2 := by
    cases e : lcLoop it t χ φ μ1.length (wipeD ρ vs) FUEL 0 (μ1 ++ [.lst []]) with
    | ok u μ2 =>
      simp only [e] at h2
      exact ⟨u, μ2, rfl, fun m2 H2 g2 r2 q => h2 (.ref Dl) m2 H2 g2 r2 ⟨Dl, rfl, q⟩⟩
    | ex x μ2 => simp only [e] at h2; exact h2.elim
    | no => simp only [e] at h2; exact h2.elim
  obtain ⟨u, μ2, hl, hq⟩ := fin
  refine ⟨fun i f H => ∃ μ m, Go X.K (upd H1 Dl (.lst [])) (m1 ++ [Dl]) H m ∧ Wd X.K (wipeD ρ vs) μ m (wipe σ vs) H ∧ lcLoop it t χ φ μ1.length (wipeD ρ vs) f i μ = .ok u μ2,
    ⟨FUEL, _, _, Go.refl, (w.mono (g1.trans gn) rn).wipe vs, hl⟩, ?_⟩
  rintro i f H ⟨μ, m, g0, w, h⟩
  cases f with
  | zero => unfold lcLoop at h; cases h
  | succ f =>
    unfold lcLoop at h
    have hi := hJ i μ m H (gn.trans g0) w.rl
    cases e : it μ i with
    | none => simp only [e] at h; cases h
    | some o =>
      rw [e] at hi
      cases o with
      | none =>
        simp only [e] at h
        have e2 : μ = μ2 := by injection h
        subst e2
        exact .inl ⟨hi, hq m H (gn.trans g0) w.rl (g0.ext _ _ hDl)⟩
      | some d =>
        simp only [e] at h
        refine .inr ⟨hi.1, fun H => ∃ μ m, Go X.K (upd H1 Dl (.lst [])) (m1 ++ [Dl]) H m ∧ Wd X.K (wipeD ρ vs) μ m (wipe σ vs) H ∧ lcLoop it t χ φ μ1.length (wipeD ρ vs) f (i + 1) μ = .ok u μ2, fun H' n => ⟨f, Nat.lt_succ_self f, n⟩, fun x H' y => ?_⟩
        obtain ⟨g2, r2, rx⟩ := hi.2 x H' y
        cases e2 : t d (wipeD ρ vs) with
        | none => simp only [e2] at h; cases h
        | some ρ1 =>
          simp only [e2] at h
          refine ht x d _ H' _ ρ1 μ m _ (w.mono g2 r2) rx e2 fun σ1 w2 l2 s2 => ⟨wipe_again l2 s2 hts, ρ1, μ, m, w2, ?_⟩
          cases e3 : χ ρ1 μ with
          | ok k μ3 =>
            simp only [e3] at h
            intro b m3 H3 g3 r3 hb
            cases (show b = k from hb)
            cases k with
            | false =>
              simp only [Bool.false_eq_true, if_false] at h
              exact ⟨μ3, m3, (g0.trans g2).trans g3, w.mono (g2.trans g3) r3, h⟩
            | true =>
              simp only [if_true] at h
              refine ⟨ρ1, μ3, m3, w2.mono g3 r3, ?_⟩
              cases e4 : φ ρ1 μ3 with
              | ok y μ4 =>
                simp only [e4] at h
                intro v m4 H4 g4 r4 rv
                cases e5 : μ4[μ1.length]? with
                | none => simp only [e5] at h; cases h
                | some o =>
                  cases o with
                  | lst acc =>
                    simp only [e5] at h
                    by_cases hz : acc.length < sizeLine
                    · rw [if_pos hz] at h
                      have gg := ((g0.trans g2).trans g3).trans g4
                      have hm4 := gg.ext _ _ hDl
                      obtain ⟨a, q1, xs, q2, q3⟩ := r4.at e5
                      have z : a = Dl := Option.some.inj (q1.symm.trans hm4)
                      subst z
                      refine ⟨xs, q2, by rw [q3.len]; exact hz, _, m4, gg.trans (Go.put q2), ?_, h⟩
                      exact w.mono ((g2.trans g3).trans (g4.trans (Go.put q2))) (r4.put q1 q2 (q3.app (Reps.one rv)))
                    · rw [if_neg hz] at h; cases h
              | ex x4 μ4 => simp only [e4] at h; cases h
              | no => simp only [e4] at h; cases h
          | ex x3 μ3 => simp only [e3] at h; cases h
          | no => simp only [e3] at h; cases h
theorem me_lc (hc : X.calm = true) (hN : X.N.Nodup) (hi : PI X tg iter (tI X.K E ι)) (ok : BlkOk X.N X.env.scope scope own)
    (hg : ∀ (s : Shared) (H : Hp) (C : Addr) (cl : List (Str × Addr)) (fp : List Addr), PG (X.blk s H scope (compEnvC scope cl C X.env) fp) tg g) (ht : TgOk X.K g t ts) (hts : ∀ j ∈ ts, j ∈ own.map (·.2))
    (hχ : ∀ (s : Shared) (H : Hp) (C : Addr) (cl : List (Str × Addr)) (fp : List Addr), PTs (X.blk s H scope (compEnvC scope cl C X.env) fp) ifs (tT X.K EN χ))
    (he : ∀ (s : Shared) (H : Hp) (C : Addr) (cl : List (Str × Addr)) (fp : List Addr), PE (X.blk s H scope (compEnvC scope cl C X.env) fp) elt (tM X.K EN φ)) (hs : ∀ x, foldedSetIterable iter X.env x = Pure.pure x := by intro _; rfl) :
    PE X (.ListComp elt [⟨tg, iter, ifs, 0⟩] scope pos) (tM X.K E (eLc ι t χ φ (own.map (·.2)))) :=
  (pe_lc hc hN hi ok hg hχ he hs).imp fun σ H Q h => lc_step ht hts h
theorem ms_setLc {i : Nat} {y : Str} {py spos : Pos} (hc : X.calm = true) (hN : X.N.Nodup) (hy : X.N[i]? = some y) (hyl : X.env.scope.names.lookup y = some .local)
    (hsw : swapsWith (.ListComp elt [⟨tg, iter, ifs, 0⟩] scope pos) (some (.Name y py)) spos.line X.env = Pure.pure true) (hi : PI X tg iter (tI X.K E ι)) (ok : BlkOk X.N X.env.scope scope own)
    (hg : ∀ (s : Shared) (H : Hp) (C : Addr) (cl : List (Str × Addr)) (fp : List Addr), PG (X.blk s H scope (compEnvC scope cl C X.env) fp) tg g) (ht : TgOk X.K g t ts) (hts : ∀ j ∈ ts, j ∈ own.map (·.2))
    (hχ : ∀ (s : Shared) (H : Hp) (C : Addr) (cl : List (Str × Addr)) (fp : List Addr), PTs (X.blk s H scope (compEnvC scope cl C X.env) fp) ifs (tT X.K EN χ))
    (he : ∀ (s : Shared) (H : Hp) (C : Addr) (cl : List (Str × Addr)) (fp : List Addr), PE (X.blk s H scope (compEnvC scope cl C X.env) fp) elt (tM X.K EN φ)) (hs : ∀ x, foldedSetIterable iter X.env x = Pure.pure x := by intro _; rfl) :
    PS X (.Assign [.Name y py] (.ListComp elt [⟨tg, iter, ifs, 0⟩] scope pos) spos) (tS X.K E (sAsg (eLc ι t χ φ (own.map (·.2))) (gN i))) :=
  (ps_setLc hc hN hy hyl hsw hi ok hg hχ he hs).imp fun D1 σ H h => by
    obtain ⟨ρ, μ, m, w, h⟩ := h
    refine lc_step ht hts ⟨ρ, μ, m, w, (Post.to (RA := Rep X.K) w h).imp fun v H1 ⟨d, μ1, m1, g1, w1, ra, h2⟩ => ?_⟩
    exact h2 _ m1 H1 Go.refl (w1.set ra)
theorem ms_set {i : Nat} {x : Str} {e : Expr} {pos' : Pos} (hN : X.N.Nodup) (hi : X.N[i]? = some x) (hx : Loc X.env.scope x) (he : PE X e (tM X.K E φ)) (hs : swapsWith e (some (.Name x pos')) pos.line X.env = Pure.pure false := by rfl) (hf : X.fn x = true ∨ X.env.scope.names.lookup x = some .local := by first | exact .inl rfl | exact .inr rfl | assumption) :
    PS X (.Assign [.Name x pos'] e pos) (tS X.K E (sAsg φ (gN i))) := (ps_set hN hi hx he hs hf).imp fun D1 σ H h => by
  obtain ⟨ρ, μ, m, w, h⟩ := h
  refine ⟨ρ, μ, m, w, (Post.to (RA := Rep X.K) w h).imp fun v H1 ⟨d, μ1, m1, g1, w1, ra, h2⟩ => ?_⟩
  exact h2 _ m1 H1 Go.refl (w1.set ra)
/-- a, b = e, f -/
def sPar (i j : Nat) (a : AM) : SM := fun ρ μ => RS.bind (a ρ μ) ρ fun ds μ1 => match ds with
  | [d, e] => .nx ((ρ.set i (some d)).set j (some e)) μ1
  | _ => .no
theorem ms_par {i j : Nat} {x y : Str} {a b : Expr} {φa : AM} {px py pt : Pos} {kt k2 pt2} (hc : X.calm = true) (hN : X.N.Nodup) (hi : X.N[i]? = some x) (hj : X.N[j]? = some y) (hij : i ≠ j)
    (h : PA X [a, b] (tA X.K E φa)) (hp : ∀ {t : TA}, PA X [a, b] t → PS X (.Assign [.Tuple [.Name x px, .Name y py] kt pt] (.Tuple [a, b] k2 pt2) pos) (tPar i j t)) :
    PS X (.Assign [.Tuple [.Name x px, .Name y py] kt pt] (.Tuple [a, b] k2 pt2) pos) (tS X.K E (sPar i j φa)) := (hp h).imp fun D1 σ H h => by
  obtain ⟨ρ, μ, m, w, h⟩ := h
  refine ⟨ρ, μ, m, w, (Post.to (RA := Reps X.K) w h).imp fun vs H1 ⟨ds, μ1, m1, g1, w1, ra, h2⟩ => ?_⟩
  match ds, ra, h2 with
  | [], ra, h2 => exact h2.elim
  | [_], ra, h2 => exact h2.elim
  | [d, e], ra, h2 =>
    obtain ⟨v, r, e1, r1, u, r2, e2, r3, e3⟩ := ra
    cases (show r2 = [] from e3)
    subst e2
    exact ⟨v, u, e1, h2 _ m1 H1 Go.refl ((w1.set r1).set r3)⟩
  | _ :: _ :: _ :: _, ra, h2 => exact h2.elim
end
/-! ### a def -/
def fnM (n : Nat) (np : Nat) (ψ : SM) : Fn := fun ds μ => if ds.length = np then
  (match ψ (ds.map some ++ List.replicate (n - np) none) μ with
  | .rt d μ1 => .ok d μ1
  | .nx _ μ1 => .ok .non μ1
  | .ex e _ μ1 => .ex e μ1
  | _ => .no) else .no
/-- .. that nothing is raised out of -/
def fnN (n : Nat) (np : Nat) (ψ : SM) : Fn := fun ds μ => if ds.length = np then
  (match ψ (ds.map some ++ List.replicate (n - np) none) μ with
  | .rt d μ1 => .ok d μ1
  | .nx _ μ1 => .ok .non μ1
  | _ => .no) else .no
theorem fnN_noex (n np : Nat) (ψ : SM) : NoEx (fnN n np ψ) := fun ds μ e μ1 h => by
  unfold fnN at h
  split at h
  · split at h <;> cases h
  · cases h
theorem wd_start {K : PySem.W.Frag} {H : Hp} {m : List Addr} {μ : Mm} {N : List Str} {ds : List D} {vs : List V} {np : Nat} (r : Rl K μ m H) (rs : Reps K H m ds vs) (hl : ds.length = np) : Wd K (ds.map some ++ List.replicate (N.length - np) none) μ m (L2.start N vs) H := by
  have e := rs.len
  refine ⟨fun i d q => ?_, ?_, r⟩
  · by_cases hi : i < ds.length
    · rw [List.getElem?_append_left (by rw [List.length_map]; exact hi), List.getElem?_map] at q
      cases q2 : ds[i]? with
      | none => rw [q2] at q; cases q
      | some d2 =>
        rw [q2] at q
        have z : d2 = d := by simpa using q
        subst z
        obtain ⟨v, v1, v2⟩ := rs.get q2
        refine ⟨v, ?_, v2⟩
        unfold L2.start
        rw [List.getElem?_append_left (by rw [List.length_map, e]; exact hi), List.getElem?_map, v1]
        rfl
    · rw [List.getElem?_append_right (by rw [List.length_map]; omega)] at q
      have := List.mem_of_getElem? q
      rw [List.mem_replicate] at this
      cases this.2
  · unfold L2.start
    simp [e, hl]
section
variable {P : Program} {w : World} {K : PySem.W.Frag} {mg : Str → Option Value} {base : Heap}
theorem fn_ok {x qual : Str} {st : Stmt} {f : Addr} {fd : FuncData} {N ps : List Str} {k : Nat} {ψ : SM} (F : Fun K x qual st f fd) (S : FnScope N ps (defScope st))
    (hbody : ∀ (cdv : Value) (A : Around) (outer : List Env) (s : Shared) (H : Hp) (E : XK), Room k (A.deeper (envOfC qual (defScope st) s.heap.objs.size f cdv)) →
      PSs (cxOf CX0 P w K mg base N qual (defScope st) f cdv A outer s H E).nox (defBody st) (tS K EN ψ)) : FnOk P w K mg base CX0 (k + 1) f fd ps (spN K (fnN N.length ps.length ψ)) := by
  refine F.ok S (fun vs H Q E h => ?_) (fun cdv A outer s H vs Q E hr h => ⟨_, hbody cdv A outer s H E hr, ?_⟩)
  · obtain ⟨ds, μ, m, rs, r, h⟩ := h
    by_cases hl : ds.length = ps.length
    · rw [rs.len]; exact hl
    · unfold fnN at h
      rw [if_neg hl] at h
      exact h.elim
  · obtain ⟨ds, μ, m, rs, r, h⟩ := h
    by_cases hl : ds.length = ps.length
    · unfold fnN at h
      rw [if_pos hl] at h
      refine ⟨_, μ, m, wd_start r rs hl, ?_⟩
      cases e : ψ (ds.map some ++ List.replicate (N.length - ps.length) none) μ with
      | rt d μ1 => rw [e] at h; exact fun v m1 H1 g1 r1 ra => h v m1 H1 g1 r1 ra
      | nx ρ μ1 => rw [e] at h; exact fun σ1 m1 H1 g1 w1 => h .non m1 H1 g1 w1.rl rfl
      | ex x ρ μ1 => rw [e] at h; exact h.elim
      | bk ρ μ1 => rw [e] at h; exact h.elim
      | ct ρ μ1 => rw [e] at h; exact h.elim
      | no => rw [e] at h; exact h.elim
    · unfold fnN at h
      rw [if_neg hl] at h
      exact h.elim
end
end ML
namespace ML
open PySem PySem.Spec PyProof.Rows L2
/-! ### operators on data -/
def addD : D → D → M D
  | .int i, .int j => M.ret (.int (i + j))
  | _, _ => M.stop
def subD : D → D → M D
  | .int i, .int j => M.ret (.int (i - j))
  | _, _ => M.stop
def mulD : D → D → M D
  | .int i, .int j => fun μ => if (-(2 ^ 64) < i ∧ i < 2 ^ 64) ∨ (-(2 ^ 64) < j ∧ j < 2 ^ 64) ∨ i.natAbs.log2 + j.natAbs.log2 < 1000000 then .ok (.int (i * j)) μ else .no
  | _, _ => M.stop
/-- one factor within 64 bits, or both together below a million -/
def CMulA (i j : Int) : Prop := (-(2 ^ 64) < i ∧ i < 2 ^ 64) ∨ (-(2 ^ 64) < j ∧ j < 2 ^ 64) ∨ i.natAbs.log2 + j.natAbs.log2 < 1000000
theorem op_mulA {X : Cx} : OpR X (binaryOp .Mult) (rI CMulA fun i j => .int (i * j)) := opI fun i j _ _ _ _ _ hc q => by
  rcases hc with h | h | h
  · exact mul_int q (CMul.ok (.inl h))
  · exact mul_int q (CMul.ok (.inr h))
  · exact mul_int q (CMulW.ok h)
def fdivD : D → D → M D
  | .int i, .int j => fun μ => if 0 < j ∧ j.natAbs.log2 < 9000 then .ok (.int (i / j)) μ else .no
  | _, _ => M.stop
def modD : D → D → M D
  | .int i, .int j => fun μ => if 0 < j then .ok (.int (i % j)) μ else .no
  | _, _ => M.stop
def powD : D → D → M D
  | .int i, .int j => fun μ => if 0 ≤ j ∧ j ≤ 1000000 ∧ i.natAbs < 2 ^ 64 then .ok (.int (i ^ j.toNat)) μ else .no
  | _, _ => M.stop
def shlD : D → D → M D
  | .int i, .int j => fun μ => if 0 ≤ j ∧ j ≤ 1000000 ∧ i.natAbs < 2 ^ 64 then .ok (.int (i * 2 ^ j.toNat)) μ else .no
  | _, _ => M.stop
def negD : D → M D
  | .int i => M.ret (.int (-i))
  | _ => M.stop
def cmpD (p : Int → Int → Bool) : D → D → M D
  | .int i, .int j => M.ret (.bl (p i j))
  | _, _ => M.stop
def ltD : D → D → M D := cmpD fun i j => decide (i < j)
def leD : D → D → M D := cmpD fun i j => decide (i ≤ j)
def gtD : D → D → M D := cmpD fun i j => decide (j < i)
def geD : D → D → M D := cmpD fun i j => decide (j ≤ i)
def isNon : D → Bool
  | .non => true
  | _ => false
def isD : D → D → M D
  | x, .non => M.ret (.bl (isNon x))
  | _, _ => M.stop
def isntD : D → D → M D
  | x, .non => M.ret (.bl (!isNon x))
  | _, _ => M.stop
section
variable {K : PySem.W.Frag} {H : Hp} {m : List Addr} {μ : Mm} {E : XK} {Q : VK} {x y : D} {v u : V}
theorem rint {i : Int} (h : Rep K H m (.int i) v) : v = .int i := h
/-- a rule over two ints -/
theorem s2_int {C : Int → Int → Prop} {g : Int → Int → V} {f : D → D → M D} (hf : ∀ x y E μ m H Q, Post K (Rep K) E m H (f x y μ) Q → ∃ i j, x = .int i ∧ y = .int j ∧ C i j ∧ (Rl K μ m H → Q (g i j) H)) : S2 K (rI C g) f := fun E x y μ m H v u Q r rx ry h => by
  obtain ⟨i, j, rfl, rfl, c, q⟩ := hf x y E μ m H Q h
  exact ⟨i, j, rx, ry, c, q r⟩
theorem s2_int0 {g : Int → Int → V} {f : D → D → M D} (hf : ∀ x y E μ m H Q, Post K (Rep K) E m H (f x y μ) Q → ∃ i j, x = .int i ∧ y = .int j ∧ (Rl K μ m H → Q (g i j) H)) : S2 K (rI0 g) f := fun E x y μ m H v u Q r rx ry h => by
  obtain ⟨i, j, rfl, rfl, q⟩ := hf x y E μ m H Q h
  exact ⟨i, j, rx, ry, q r⟩
theorem s_add : S2 K (rI0 fun i j => .int (i + j)) addD := s2_int0 fun x y E μ m H Q h => by
  cases x <;> cases y <;> first | exact h.elim | exact ⟨_, _, rfl, rfl, fun r => h _ m H Go.refl r rfl⟩
theorem s_sub : S2 K (rI0 fun i j => .int (i - j)) subD := s2_int0 fun x y E μ m H Q h => by
  cases x <;> cases y <;> first | exact h.elim | exact ⟨_, _, rfl, rfl, fun r => h _ m H Go.refl r rfl⟩
theorem post_if {c : Prop} [Decidable c] {d : D} (h : Post K (Rep K) E m H (if c then R.ok d μ else R.no) Q) : c ∧ Post K (Rep K) E m H (R.ok d μ) Q := by
  by_cases hc : c
  · rw [if_pos hc] at h; exact ⟨hc, h⟩
  · rw [if_neg hc] at h; exact h.elim
theorem s_mul : S2 K (rI CMulA fun i j => .int (i * j)) mulD := s2_int fun x y E μ m H Q h => by
  cases x <;> cases y <;> first | exact h.elim | exact ⟨_, _, rfl, rfl, (post_if h).1, fun r => (post_if h).2 _ m H Go.refl r rfl⟩
theorem s_fdiv : S2 K (rI CDivW fun i j => .int (i / j)) fdivD := s2_int fun x y E μ m H Q h => by
  cases x <;> cases y <;> first | exact h.elim | exact ⟨_, _, rfl, rfl, (post_if h).1, fun r => (post_if h).2 _ m H Go.refl r rfl⟩
theorem s_mod : S2 K (rI (fun _ j => j ≠ 0) fun i j => .int (i.fmod j)) modD := s2_int fun x y E μ m H Q h => by
  cases x <;> cases y <;> first | exact h.elim | skip
  rename_i i j
  have hj := (post_if h).1
  refine ⟨_, _, rfl, rfl, Int.ne_of_gt hj, fun r => ?_⟩
  show Q (.int (i.fmod j)) H
  rw [Int.fmod_eq_emod_of_nonneg i (Int.le_of_lt hj)]
  exact (post_if h).2 _ m H Go.refl r rfl
theorem s_pow : S2 K (rI CPow fun i j => .int (i ^ j.toNat)) powD := s2_int fun x y E μ m H Q h => by
  cases x <;> cases y <;> first | exact h.elim | exact ⟨_, _, rfl, rfl, (post_if h).1, fun r => (post_if h).2 _ m H Go.refl r rfl⟩
theorem s_shl : S2 K (rI CPow fun i j => .int (i * 2 ^ j.toNat)) shlD := s2_int fun x y E μ m H Q h => by
  cases x <;> cases y <;> first | exact h.elim | exact ⟨_, _, rfl, rfl, (post_if h).1, fun r => (post_if h).2 _ m H Go.refl r rfl⟩
theorem s_cmp {p : Int → Int → Bool} : S2 K (rI0 fun i j => .bl (p i j)) (cmpD p) := s2_int0 fun x y E μ m H Q h => by
  cases x <;> cases y <;> first | exact h.elim | exact ⟨_, _, rfl, rfl, fun r => h _ m H Go.refl r rfl⟩
theorem s_neg : S1 K (rU fun i => .int (-i)) negD := fun E x μ m H v Q r rx h => by
  cases x <;> first | exact h.elim | skip
  exact ⟨_, rx, h _ m H Go.refl r rfl⟩
theorem rep_non : ∀ {x : D}, Rep K H m x v → decide (v = .non) = isNon x := fun {x} h => by
  cases x with
  | non => rw [show v = .non from h] <;> rfl
  | bl b => rw [show v = .bl b from h] <;> rfl
  | int b => rw [show v = .int b from h] <;> rfl
  | str b => rw [show v = .str b from h] <;> rfl
  | ty b => rw [show v = .ty b from h] <;> rfl
  | cls b => rw [show v = .ref b from h] <;> rfl
  | tup l => obtain ⟨a, xs, e, _⟩ := h; rw [e] <;> rfl
  | ref n => obtain ⟨a, e, _⟩ := h; rw [e] <;> rfl
  | sq l => obtain ⟨a, xs, e, _⟩ := h; rw [e] <;> rfl
theorem s_is : S2 K (fun x y H Q => y = .non ∧ Q (.bl (decide (x = .non))) H) isD := fun E x y μ m H v u Q r rx ry h => by
  cases y <;> first | exact h.elim | skip
  refine ⟨ry, ?_⟩
  rw [rep_non rx]
  exact h _ m H Go.refl r rfl
theorem s_isnt : S2 K (fun x y H Q => y = .non ∧ Q (.bl (!decide (x = .non))) H) isntD := fun E x y μ m H v u Q r rx ry h => by
  cases y <;> first | exact h.elim | skip
  refine ⟨ry, ?_⟩
  rw [rep_non rx]
  exact h _ m H Go.refl r rfl
end
/-! ### == of data -/
mutual
def toPy : D → Option PyData
  | .non => some .none
  | .bl b => some (.bool b)
  | .int i => some (.int i)
  | .str x => some (.str x)
  | .tup l => match toPys l with
    | some ds => some (.tuple ds)
    | none => none
  | _ => none
def toPys : List D → Option (List PyData)
  | [] => some []
  | d :: l => match toPy d, toPys l with
    | some p, some ps => some (p :: ps)
    | _, _ => none
end
def eqB (x y : D) : Option Bool := match toPy x, toPy y with
  | some p, some q => if SeqAt.shaped p && SeqAt.shaped q then some (PyData.eqv p q) else none
  | _, _ => none
def eqD (x y : D) : M D := fun μ => match eqB x y with
  | some b => .ok (.bl b) μ
  | none => .no
def neD (x y : D) : M D := fun μ => match eqB x y with
  | some b => .ok (.bl (!b)) μ
  | none => .no
section
variable {K : PySem.W.Frag} {H : Hp} {m : List Addr}
mutual
theorem toPy_ok : ∀ (d : D) (v : V) (p : PyData), Rep K H m d v → toPy d = some p → Dp K H v p
  | .non, v, p, h, e => by
    have e1 : PyData.none = p := by simpa [toPy] using e
    rw [show v = .non from h, ← e1]; exact .non
  | .bl b, v, p, h, e => by
    have e1 : PyData.bool b = p := by simpa [toPy] using e
    rw [show v = .bl b from h, ← e1]; exact .bl b
  | .int b, v, p, h, e => by
    have e1 : PyData.int b = p := by simpa [toPy] using e
    rw [show v = .int b from h, ← e1]; exact .int b
  | .str b, v, p, h, e => by
    have e1 : PyData.str b = p := by simpa [toPy] using e
    rw [show v = .str b from h, ← e1]; exact .str b
  | .tup l, v, p, h, e => by
    obtain ⟨a, xs, e1, hs, rs⟩ := h
    cases q : toPys l with
    | none => simp [toPy, q] at e
    | some ds =>
      have e2 : PyData.tuple ds = p := by simpa [toPy, q] using e
      rw [e1, ← e2]
      exact .tup hs (toPys_ok l xs ds rs q)
  | .ref n, v, p, h, e => by simp [toPy] at e
  | .ty n, v, p, h, e => by simp [toPy] at e
  | .cls n, v, p, h, e => by simp [toPy] at e
  | .sq n, v, p, h, e => by simp [toPy] at e
theorem toPys_ok : ∀ (l : List D) (xs : List V) (ps : List PyData), Reps K H m l xs → toPys l = some ps → DpAll K H xs ps
  | [], xs, ps, h, e => by
    have e1 : ps = [] := by simpa [toPys] using e
    rw [show xs = [] from h, e1]; exact .nil
  | d :: l, xs, ps, h, e => by
    obtain ⟨v, r, e1, a, b⟩ := h
    cases q1 : toPy d with
    | none => simp [toPys, q1] at e
    | some p =>
      cases q2 : toPys l with
      | none => simp [toPys, q1, q2] at e
      | some qs =>
        have e2 : p :: qs = ps := by simpa [toPys, q1, q2] using e
        rw [e1, ← e2]
        exact .cons (toPy_ok d v p a q1) (toPys_ok l r qs b q2)
end
theorem eqB_ok {x y : D} {b : Bool} (h : eqB x y = some b) : ∃ p q, toPy x = some p ∧ toPy y = some q ∧ SeqAt.shaped p = true ∧ SeqAt.shaped q = true ∧ b = PyData.eqv p q := by
  unfold eqB at h
  cases e1 : toPy x with
  | none => simp [e1] at h
  | some p =>
    cases e2 : toPy y with
    | none => simp [e1, e2] at h
    | some q =>
      simp only [e1, e2] at h
      by_cases hs : (SeqAt.shaped p && SeqAt.shaped q) = true
      · rw [if_pos hs] at h
        have hs2 : SeqAt.shaped p = true ∧ SeqAt.shaped q = true := by simpa using hs
        exact ⟨p, q, rfl, rfl, hs2.1, hs2.2, (Option.some.inj h).symm⟩
      · rw [if_neg hs] at h; cases h
theorem s_eq : S2 K (rEqD K) eqD := fun E x y μ m H v u Q r rx ry h => by
  unfold eqD at h
  cases e : eqB x y with
  | none => rw [e] at h; exact h.elim
  | some b =>
    rw [e] at h
    obtain ⟨p, q, h1, h2, h3, h4, rfl⟩ := eqB_ok e
    exact ⟨p, q, toPy_ok x v p rx h1, toPy_ok y u q ry h2, h3, h4, h _ m H Go.refl r rfl⟩
theorem s_ne : S2 K (rNeD K) neD := fun E x y μ m H v u Q r rx ry h => by
  unfold neD at h
  cases e : eqB x y with
  | none => rw [e] at h; exact h.elim
  | some b =>
    rw [e] at h
    obtain ⟨p, q, h1, h2, h3, h4, rfl⟩ := eqB_ok e
    exact ⟨p, q, toPy_ok x v p rx h1, toPy_ok y u q ry h2, h3, h4, h _ m H Go.refl r rfl⟩
end
/-! ### subscripts -/
def seqOf (n : Nat) (μ : Mm) : Option (List D) := match μ[n]? with
  | some (.lst l) => some l
  | _ => none
def ixD : D → D → M D
  | .tup l, .int i => fun μ => match atI l i with
    | some d => .ok d μ
    | none => .no
  | .sq l, .int i => fun μ => match atI l i with
    | some d => .ok d μ
    | none => .no
  | .ref n, .int i => fun μ => match seqOf n μ with
    | some l => (match atI l i with
      | some d => .ok d μ
      | none => .no)
    | none => .no
  | _, _ => M.stop
section
variable {K : PySem.W.Frag} {H : Hp} {m : List Addr} {μ : Mm}
theorem seqOf_get (r : Rl K μ m H) {n : Nat} {l : List D} (h : seqOf n μ = some l) : ∃ a xs, m[n]? = some a ∧ SqL K H a xs ∧ Reps K H m l xs := by
  unfold seqOf at h
  split at h
  · cases h; exact seq_get r (by assumption)
  · cases h
theorem atI_rep {l : List D} {xs : List V} {i : Int} {d : D} (rs : Reps K H m l xs) (h : atI l i = some d) : ∃ v, atI xs i = some v ∧ Rep K H m d v := by
  unfold atI at h
  cases e : ixN l.length i with
  | none => rw [e] at h; cases h
  | some j =>
    rw [e] at h
    obtain ⟨v, v1, v2⟩ := rs.get (i := j) h
    refine ⟨v, ?_, v2⟩
    unfold atI
    rw [rs.len, e]
    exact v1
theorem s_ix : S2 K (fun x y H Q => rIxL K x y H Q ∨ rIxT K x y H Q) ixD := fun E x y μ m H v u Q r rx ry h => by
  cases x with
  | tup l =>
    cases y with
    | int i =>
      obtain ⟨a, xs, e1, hs, rs⟩ := rx
      have h : Post K (Rep K) E m H (match atI l i with | some d => R.ok d μ | none => R.no) Q := h
      cases e : atI l i with
      | none => rw [e] at h; exact h.elim
      | some d =>
        rw [e] at h
        obtain ⟨w, w1, w2⟩ := atI_rep rs e
        exact .inr ⟨a, xs, i, w, e1, ry, hs, w1, h w m H Go.refl r w2⟩
    | _ => exact h.elim
  | sq l =>
    cases y with
    | int i =>
      obtain ⟨a, xs, e1, hs, rs⟩ := rx
      have h : Post K (Rep K) E m H (match atI l i with | some d => R.ok d μ | none => R.no) Q := h
      cases e : atI l i with
      | none => rw [e] at h; exact h.elim
      | some d =>
        rw [e] at h
        obtain ⟨w, w1, w2⟩ := atI_rep rs e
        exact .inl ⟨a, xs, i, w, e1, ry, hs.l, w1, h w m H Go.refl r w2⟩
    | _ => exact h.elim
  | ref n =>
    cases y with
    | int i =>
      obtain ⟨a, e1, e2⟩ := rx
      have h : Post K (Rep K) E m H (match seqOf n μ with | some l => (match atI l i with | some d => R.ok d μ | none => R.no) | none => R.no) Q := h
      cases e : seqOf n μ with
      | none => rw [e] at h; exact h.elim
      | some l =>
        simp only [e] at h
        obtain ⟨a', xs, q1, q2, q3⟩ := seqOf_get r e
        have z : a' = a := Option.some.inj (q1.symm.trans e2)
        subst z
        cases e3 : atI l i with
        | none => simp only [e3] at h; exact h.elim
        | some d =>
          simp only [e3] at h
          obtain ⟨w, w1, w2⟩ := atI_rep q3 e3
          exact .inl ⟨a', xs, i, w, e1, ry, q2, w1, h w m H Go.refl r w2⟩
    | _ => exact h.elim
  | _ => exact h.elim
end
/-! ### builtins -/
def tyName : D → Mm → Option String
  | .non, _ => some "NoneType"
  | .bl _, _ => some "bool"
  | .int _, _ => some "int"
  | .str _, _ => some "str"
  | .tup _, _ => some "tuple"
  | .ref n, μ => match seqOf n μ with
    | some _ => some "list"
    | none => none
  | _, _ => none
def isiL : List D → M D
  | [x, .ty n] => fun μ => match tyName x μ with
    | some T => (match kitB T n with
      | some b => .ok (.bl b) μ
      | none => .no)
    | none => .no
  | _ => M.stop
def lenL : List D → M D
  | [.tup l] => M.ret (.int l.length)
  | [.ref n] => fun μ => match seqOf n μ with
    | some l => .ok (.int l.length) μ
    | none => .no
  | _ => M.stop
def absL : List D → M D
  | [.int i] => M.ret (.int (if i < 0 then -i else i))
  | _ => M.stop
def intL : List D → M D
  | [.int i] => M.ret (.int i)
  | [.bl k] => M.ret (.int (if k then 1 else 0))
  | _ => M.stop
def gcdL : List D → M D
  | [.int a, .int b] => M.ret (.int ((Nat.gcd a.natAbs b.natAbs : Nat) : Int))
  | _ => M.stop
def tupleL : List D → M D
  | [.tup l] => M.ret (.tup l)
  | [.ref n] => fun μ => match seqOf n μ with
    | some l => .ok (.tup l) μ
    | none => .no
  | _ => M.stop
def listL : List D → M D
  | [.tup l] => fun μ => .ok (.ref μ.length) (μ ++ [.lst l])
  | [.ref n] => fun μ => match seqOf n μ with
    | some l => .ok (.ref μ.length) (μ ++ [.lst l])
    | none => .no
  | _ => M.stop
def allBl : List D → Option (List Bool)
  | [] => some []
  | .bl b :: l => match allBl l with
    | some bs => some (b :: bs)
    | none => none
  | _ => none
def allL : List D → M D
  | [.ref n] => fun μ => match seqOf n μ with
    | some l => (match allBl l with
      | some bs => .ok (.bl (bs.all id)) μ
      | none => .no)
    | none => .no
  | _ => M.stop
section
variable {K : PySem.W.Frag} {H : Hp} {m : List Addr} {μ : Mm}
theorem reps1 {d : D} {vs : List V} (h : Reps K H m [d] vs) : ∃ v, vs = [v] ∧ Rep K H m d v := by
  obtain ⟨v, r, e, a, b⟩ := h
  cases (show r = [] from b)
  exact ⟨v, e, a⟩
theorem reps2 {d e : D} {vs : List V} (h : Reps K H m [d, e] vs) : ∃ v u, vs = [v, u] ∧ Rep K H m d v ∧ Rep K H m e u := by
  obtain ⟨v, r, e1, a, b⟩ := h
  obtain ⟨u, rfl, c⟩ := reps1 b
  exact ⟨v, u, e1, a, c⟩
theorem list1 {P : List D → Prop} (h0 : P []) (h1 : ∀ x, P [x]) (h2 : ∀ x y r, P (x :: y :: r)) : ∀ l, P l
  | [] => h0
  | [x] => h1 x
  | x :: y :: r => h2 x y r
theorem tyX_seq (r : Rl K μ m H) {n : Nat} {a : Addr} {l : List D} (ha : m[n]? = some a) (h : seqOf n μ = some l) : TyX K H (.ref a) (.type "list") := by
  unfold seqOf at h
  split at h
  · obtain ⟨a', q1, xs, q2, q3⟩ := r.at (n := n) (by assumption)
    have z : a' = a := Option.some.inj (q1.symm.trans ha)
    subst z
    exact .base (.lst q2)
  · cases h
theorem tyX_of (r : Rl K μ m H) {x : D} {v : V} {T : String} (rx : Rep K H m x v) (h : tyName x μ = some T) : TyX K H v (.type T) := by
  cases x with
  | non => cases h; rw [show v = .non from rx]; exact .base .non
  | bl b => cases h; rw [show v = .bl b from rx]; exact .base (.bl b)
  | int b => cases h; rw [show v = .int b from rx]; exact .base (.int b)
  | str b => cases h; rw [show v = .str b from rx]; exact .base (.str b)
  | tup l =>
    cases h
    obtain ⟨a, xs, rfl, hs, _⟩ := rx
    rcases hs with (hs | ⟨o, hs⟩) | ⟨o, its, n, hk, hc, _⟩
    · exact .base (.tup hs)
    · exact .fTuple hs
    · exact .kTuple hk hc
  | ref n =>
    obtain ⟨a, rfl, q⟩ := rx
    have h : (match seqOf n μ with | some _ => some "list" | none => none) = some T := h
    cases e : seqOf n μ with
    | none => rw [e] at h; cases h
    | some l => rw [e] at h; cases h; exact tyX_seq r q e
  | _ => cases h
theorem s_isi : SL K (rIsi K) isiL := fun E xs μ m H vs Q r rs h => by
  revert rs h
  refine list1 (P := fun xs => Reps K H m xs vs → Post K (Rep K) E m H (isiL xs μ) Q → rIsi K vs H Q) (fun _ h => h.elim) (fun x _ h => by cases x <;> exact h.elim) (fun x y r' rs h => ?_) xs
  cases y with
  | ty n =>
    cases r' with
    | cons z q => exact h.elim
    | nil =>
      obtain ⟨v, u, e, rx, ry⟩ := reps2 rs
      have h : Post K (Rep K) E m H (match tyName x μ with | some T => (match kitB T n with | some b => R.ok (.bl b) μ | none => R.no) | none => R.no) Q := h
      cases e1 : tyName x μ with
      | none => rw [e1] at h; exact h.elim
      | some T =>
        simp only [e1] at h
        cases e2 : kitB T n with
        | none => simp only [e2] at h; exact h.elim
        | some b =>
          simp only [e2] at h
          cases (show u = .ty n from ry)
          exact ⟨v, .ty n, .type T, .type n, b, e, .ty n, tyX_of r rx e1, kit_ty e2, h _ m H Go.refl r rfl⟩
  | _ => cases r' <;> exact h.elim
theorem s_len : SL K (fun xs H Q => ∃ p ys, xs = [.ref p] ∧ (SqL K H p ys ∨ SqT K H p ys) ∧ Q (.int ys.length) H) lenL := fun E xs μ m H vs Q r rs h => by
  revert rs h
  refine list1 (P := fun xs => Reps K H m xs vs → Post K (Rep K) E m H (lenL xs μ) Q → _) (fun _ h => h.elim) (fun x rs h => ?_) (fun x y r' rs h => by cases x <;> exact h.elim) xs
  obtain ⟨v, e, rx⟩ := reps1 rs
  cases x with
  | tup l =>
    obtain ⟨a, ys, rfl, hs, q⟩ := rx
    exact ⟨a, ys, e, .inr hs, by rw [q.len]; exact h _ m H Go.refl r rfl⟩
  | ref n =>
    obtain ⟨a, rfl, q⟩ := rx
    have h : Post K (Rep K) E m H (match seqOf n μ with | some l => R.ok (.int l.length) μ | none => R.no) Q := h
    cases e1 : seqOf n μ with
    | none => rw [e1] at h; exact h.elim
    | some l =>
      rw [e1] at h
      obtain ⟨a', ys, q1, q2, q3⟩ := seqOf_get r e1
      have z : a' = a := Option.some.inj (q1.symm.trans q)
      subst z
      exact ⟨a', ys, e, .inl q2, by rw [q3.len]; exact h _ m H Go.refl r rfl⟩
  | _ => exact h.elim
theorem s_abs : SL K (fun xs H Q => ∃ i, xs = [.int i] ∧ Q (.int (if i < 0 then -i else i)) H) absL := fun E xs μ m H vs Q r rs h => by
  revert rs h
  refine list1 (P := fun xs => Reps K H m xs vs → Post K (Rep K) E m H (absL xs μ) Q → _) (fun _ h => h.elim) (fun x rs h => ?_) (fun x y r' rs h => by cases x <;> exact h.elim) xs
  obtain ⟨v, e, rx⟩ := reps1 rs
  cases x with
  | int i =>
    cases (show v = .int i from rx)
    exact ⟨i, e, h _ m H Go.refl r rfl⟩
  | _ => exact h.elim
theorem s_int : SL K (fun xs H Q => (∃ i, xs = [.int i] ∧ Q (.int i) H) ∨ ∃ k, xs = [.bl k] ∧ Q (.int (if k then 1 else 0)) H) intL := fun E xs μ m H vs Q r rs h => by
  revert rs h
  refine list1 (P := fun xs => Reps K H m xs vs → Post K (Rep K) E m H (intL xs μ) Q → _) (fun _ h => h.elim) (fun x rs h => ?_) (fun x y r' rs h => by cases x <;> exact h.elim) xs
  obtain ⟨v, e, rx⟩ := reps1 rs
  cases x with
  | int i =>
    cases (show v = .int i from rx)
    exact .inl ⟨i, e, h _ m H Go.refl r rfl⟩
  | bl i =>
    cases (show v = .bl i from rx)
    exact .inr ⟨i, e, h _ m H Go.refl r rfl⟩
  | _ => exact h.elim
theorem s_gcd : SL K rGcd gcdL := fun E xs μ m H vs Q r rs h => by
  revert rs h
  refine list1 (P := fun xs => Reps K H m xs vs → Post K (Rep K) E m H (gcdL xs μ) Q → _) (fun _ h => h.elim) (fun x _ h => by cases x <;> exact h.elim) (fun x y r' rs h => ?_) xs
  cases r' with
  | cons z q => cases x <;> first | exact h.elim | (cases y <;> exact h.elim)
  | nil =>
    obtain ⟨v, u, e, rx, ry⟩ := reps2 rs
    cases x <;> first | exact h.elim | skip
    cases y <;> first | exact h.elim | skip
    cases (show v = .int _ from rx)
    cases (show u = .int _ from ry)
    exact ⟨_, _, e, h _ m H Go.refl r rfl⟩
theorem s_tuple : SL K (fun xs H Q => ∃ p ys, xs = [.ref p] ∧ ((SqL K H p ys ∧ ∀ l, H l = none → Q (.ref l) (upd H l (.tup ys))) ∨ (SqT K H p ys ∧ Q (.ref p) H))) tupleL := fun E xs μ m H vs Q r rs h => by
  revert rs h
  refine list1 (P := fun xs => Reps K H m xs vs → Post K (Rep K) E m H (tupleL xs μ) Q → _) (fun _ h => h.elim) (fun x rs h => ?_) (fun x y r' rs h => by cases x <;> exact h.elim) xs
  obtain ⟨v, e, rx⟩ := reps1 rs
  cases x with
  | tup l =>
    obtain ⟨a, ys, rfl, hs, q⟩ := rx
    exact ⟨a, ys, e, .inr ⟨hs, h _ m H Go.refl r ⟨a, ys, rfl, hs, q⟩⟩⟩
  | ref n =>
    obtain ⟨a, rfl, q⟩ := rx
    have h : Post K (Rep K) E m H (match seqOf n μ with | some l => R.ok (.tup l) μ | none => R.no) Q := h
    cases e1 : seqOf n μ with
    | none => rw [e1] at h; exact h.elim
    | some l =>
      rw [e1] at h
      obtain ⟨a', ys, q1, q2, q3⟩ := seqOf_get r e1
      have z : a' = a := Option.some.inj (q1.symm.trans q)
      subst z
      exact ⟨a', ys, e, .inl ⟨q2, fun p hp => h _ m _ (Go.side hp) (r.side hp) ⟨p, ys, rfl, SqT.of upd_same, Reps.mono (Go.side hp) _ _ q3⟩⟩⟩
  | _ => exact h.elim
theorem s_list : SL K (fun xs H Q => ∃ p ys, xs = [.ref p] ∧ (SqL K H p ys ∨ SqT K H p ys) ∧ ∀ l, H l = none → Q (.ref l) (upd H l (.lst ys))) listL := fun E xs μ m H vs Q r rs h => by
  revert rs h
  refine list1 (P := fun xs => Reps K H m xs vs → Post K (Rep K) E m H (listL xs μ) Q → _) (fun _ h => h.elim) (fun x rs h => ?_) (fun x y r' rs h => by cases x <;> exact h.elim) xs
  obtain ⟨v, e, rx⟩ := reps1 rs
  have fin : ∀ {l : List D} {ys : List V}, Reps K H m l ys → Post K (Rep K) E m H (R.ok (.ref μ.length) (μ ++ [.lst l])) Q → ∀ p, H p = none → Q (.ref p) (upd H p (.lst ys)) := fun {l ys} q h p hp =>
    h (.ref p) (m ++ [p]) _ (Go.new hp) (r.new hp q) ⟨p, rfl, by rw [← r.len, List.getElem?_append_right (Nat.le_refl _), Nat.sub_self]; rfl⟩
  cases x with
  | tup l =>
    obtain ⟨a, ys, rfl, hs, q⟩ := rx
    exact ⟨a, ys, e, .inr hs, fin q h⟩
  | ref n =>
    obtain ⟨a, rfl, q⟩ := rx
    have h : Post K (Rep K) E m H (match seqOf n μ with | some l => R.ok (.ref μ.length) (μ ++ [.lst l]) | none => R.no) Q := h
    cases e1 : seqOf n μ with
    | none => rw [e1] at h; exact h.elim
    | some l =>
      rw [e1] at h
      obtain ⟨a', ys, q1, q2, q3⟩ := seqOf_get r e1
      have z : a' = a := Option.some.inj (q1.symm.trans q)
      subst z
      exact ⟨a', ys, e, .inl q2, fin q3 h⟩
  | _ => exact h.elim
theorem allBl_ok : ∀ {l : List D} {xs : List V} {bs : List Bool}, Reps K H m l xs → allBl l = some bs → xs = bs.map V.bl
  | [], xs, bs, h, e => by
    have e1 : bs = [] := by simpa [allBl] using e
    rw [show xs = [] from h, e1]; rfl
  | d :: l, xs, bs, h, e => by
    obtain ⟨v, r, e1, a, b⟩ := h
    cases d with
    | bl k =>
      cases q : allBl l with
      | none => simp [allBl, q] at e
      | some cs =>
        have e2 : k :: cs = bs := by simpa [allBl, q] using e
        rw [e1, ← e2, show v = .bl k from a, allBl_ok b q]; rfl
    | _ => simp [allBl] at e
theorem s_all : SL K (rAll K) allL := fun E xs μ m H vs Q r rs h => by
  revert rs h
  refine list1 (P := fun xs => Reps K H m xs vs → Post K (Rep K) E m H (allL xs μ) Q → rAll K vs H Q) (fun _ h => h.elim) (fun x rs h => ?_) (fun x y r' rs h => by cases x <;> exact h.elim) xs
  obtain ⟨v, e, rx⟩ := reps1 rs
  cases x with
  | ref n =>
    obtain ⟨a, rfl, q⟩ := rx
    have h : Post K (Rep K) E m H (match seqOf n μ with | some l => (match allBl l with | some bs => R.ok (.bl (bs.all id)) μ | none => R.no) | none => R.no) Q := h
    cases e1 : seqOf n μ with
    | none => rw [e1] at h; exact h.elim
    | some l =>
      simp only [e1] at h
      obtain ⟨a', ys, q1, q2, q3⟩ := seqOf_get r e1
      have z : a' = a := Option.some.inj (q1.symm.trans q)
      subst z
      cases e2 : allBl l with
      | none => simp only [e2] at h; exact h.elim
      | some bs =>
        simp only [e2] at h
        exact ⟨a', bs, e, by rw [← allBl_ok q3 e2]; exact q2, h _ m H Go.refl r rfl⟩
  | _ => exact h.elim
end
end ML
namespace ML
open PySem PySem.Spec PyProof.Rows L2
/-! ### methods of built-in types, stores into lists -/
/-- is it of the built-in type -/
def isTy (T : String) : D → Mm → Bool
  | .str _, _ => T == "str"
  | .int _, _ => T == "int"
  | .ref n, μ => (T == "list") && (seqOf n μ).isSome
  | _, _ => false
def eMt0 (T : String) (f : D → M D) (a : EM) : EM := fun ρ => M.thn (a ρ) fun x μ => if isTy T x μ then f x μ else .no
def eMt (T : String) (f : D → List D → M D) (a : EM) (r : AM) : EM := fun ρ => M.thn (a ρ) fun x μ => if isTy T x μ then M.thn (r ρ) (f x) μ else .no
def S1L (K : PySem.W.Frag) (r : V → List V → Hp → VK → Prop) (f : D → List D → M D) : Prop :=
  ∀ E x xs μ m H v vs Q, Rl K μ m H → Rep K H m x v → Reps K H m xs vs → Post K (Rep K) E m H (f x xs μ) Q → r v vs H Q
theorem tyV_of {K : PySem.W.Frag} {H : Hp} {m : List Addr} {μ : Mm} (r : Rl K μ m H) {x : D} {v : V} {T : String} (rx : Rep K H m x v) (h : isTy T x μ = true) : tyV K T v H := by
  cases x with
  | str z =>
    have e : T = "str" := by simpa [isTy] using h
    rw [show v = .str z from rx]; exact e
  | int z =>
    have e : T = "int" := by simpa [isTy] using h
    rw [show v = .int z from rx]; exact e
  | ref n =>
    have e : T = "list" ∧ (seqOf n μ).isSome = true := by simpa [isTy] using h
    obtain ⟨l, hl⟩ := Option.isSome_iff_exists.mp e.2
    obtain ⟨a, rfl, q⟩ := rx
    obtain ⟨a', xs, q1, q2, q3⟩ := seqOf_get r hl
    have z : a' = a := Option.some.inj (q1.symm.trans q)
    subst z
    exact .inl ⟨e.1, xs, q2⟩
  | _ => simp [isTy] at h
section
variable {X : Cx} {E : L2.St → XK} {o e : Expr} {es : List Expr} {φ : EM} {φa : AM} {name : Str} {apos cpos : Pos} {T id : String} {r : V → List V → Hp → VK → Prop}
theorem me_mt0 {f : D → List D → M D} (pa : PlainAttrs T) (slot : Slot T name id) (hty : typeOf (.builtin id) = Pure.pure (.type "method_descriptor")) (hm : MtR X id r) (hs : S1L X.K r f) (ho : PE X o (tM X.K E φ))
    (hbase : attributeBase o name X.env (eval o X.env) = eval o X.env := by rfl) (hline : (apos.endLine == cpos.line) = true := by rfl) : PE X (.Call (.Attribute o name apos) [] [] cpos) (tM X.K E (eMt0 T (fun x => f x []) φ)) :=
  (pe_bm0 pa slot hty hm ho hbase hline).imp fun σ H Q h => by
    obtain ⟨ρ, μ, m, w, h⟩ := h
    refine ⟨ρ, μ, m, w, (Post.thn (RA := Rep X.K) h).imp fun v H1 ⟨d, μ1, m1, g, r1, ra, h2⟩ => ?_⟩
    by_cases ht : isTy T d μ1 = true
    · rw [if_pos ht] at h2
      exact ⟨tyV_of r1 ra ht, hs _ d [] μ1 m1 H1 v [] Q r1 ra rfl h2⟩
    · rw [if_neg ht] at h2
      exact h2.elim
theorem me_mt {f : D → List D → M D} (pa : PlainAttrs T) (slot : Slot T name id) (hty : typeOf (.builtin id) = Pure.pure (.type "method_descriptor")) (hm : MtR X id r) (hsl : S1L X.K r f) (ho : PE X o (tM X.K E φ)) (ha : PA X (e :: es) (tA X.K E φa))
    (hbase : attributeBase o name X.env (eval o X.env) = eval o X.env := by rfl)
    (hfew : ((backTo cpos (starEach (e :: es) X.env)).all (fun x => !x.1) && (backToKw cpos (keywordEach [] X.env)).all (fun x => x.1.isSome)
      && decide ((e :: es).length + ([] : List Keyword).length + (if ([] : List Keyword).isEmpty then 0 else 1) < 30)) = true := by rfl)
    (hline : (apos.endLine == cpos.line) = true := by rfl) (hs : starEach (e :: es) X.env = (false, eval e X.env) :: starEach es X.env := by rfl) (hplain : (backTo cpos (starEach es X.env)).any (·.1) = false := by rfl) :
    PE X (.Call (.Attribute o name apos) (e :: es) [] cpos) (tM X.K E (eMt T f φ φa)) :=
  (pe_bm pa slot hty hm ho ha hbase hfew hline hs hplain).imp fun σ H Q h => by
    obtain ⟨ρ, μ, m, w, h⟩ := h
    refine ⟨ρ, μ, m, w, (Post.thn (RA := Rep X.K) h).imp fun v H1 ⟨d, μ1, m1, g, r1, ra, h2⟩ => ?_⟩
    by_cases ht : isTy T d μ1 = true
    · rw [if_pos ht] at h2
      refine ⟨tyV_of r1 ra ht, ρ, μ1, m1, w.mono g r1, (Post.thn (RA := Reps X.K) h2).imp fun vs H2 ⟨xs, μ2, m2, g2, r2, rs, h3⟩ => ?_⟩
      exact hsl _ d xs μ2 m2 H2 v vs Q r2 (Rep.mono g2 _ _ ra) rs h3
    · rw [if_neg ht] at h2
      exact h2.elim
end
def appD : D → List D → M D
  | .ref n, [y] => fun μ => match μ[n]? with
    | some (.lst l) => if l.length < sizeLine then .ok .non (μ.set n (.lst (l ++ [y]))) else .no
    | _ => .no
  | _, _ => M.stop
def revD : D → List D → M D
  | .ref n, [] => fun μ => match μ[n]? with
    | some (.lst l) => .ok .non (μ.set n (.lst l.reverse))
    | _ => .no
  | _, _ => M.stop
section
variable {K : PySem.W.Frag}
theorem s_append : S1L K rAppend appD := fun E x xs μ m H v vs Q r rx rs h => by
  cases x with
  | ref n =>
    revert rs h
    refine list1 (P := fun xs => Reps K H m xs vs → Post K (Rep K) E m H (appD (.ref n) xs μ) Q → rAppend v vs H Q) (fun _ h => h.elim) (fun y rs h => ?_) (fun x y r' rs h => h.elim) xs
    obtain ⟨u, e, ry⟩ := reps1 rs
    obtain ⟨a, rfl, q⟩ := rx
    have h : Post K (Rep K) E m H (match μ[n]? with | some (.lst l) => if l.length < sizeLine then R.ok .non (μ.set n (.lst (l ++ [y]))) else R.no | _ => R.no) Q := h
    cases e1 : μ[n]? with
    | none => simp only [e1] at h; exact h.elim
    | some ob =>
      cases ob with
      | lst l =>
        simp only [e1] at h
        obtain ⟨hz, h⟩ := post_if h
        obtain ⟨a', q1, ys, q2, q3⟩ := r.at e1
        have z : a' = a := Option.some.inj (q1.symm.trans q)
        subst z
        exact ⟨a', ys, u, rfl, e, q2, by rw [q3.len]; exact hz, h .non m _ (Go.put q2) (r.put q1 q2 (q3.app (Reps.one ry))) rfl⟩
  | _ => exact h.elim
theorem s_reverse : S1L K rReverse revD := fun E x xs μ m H v vs Q r rx rs h => by
  cases x with
  | ref n =>
    cases xs with
    | cons y l => exact h.elim
    | nil =>
      obtain ⟨a, rfl, q⟩ := rx
      have h : Post K (Rep K) E m H (match μ[n]? with | some (.lst l) => R.ok .non (μ.set n (.lst l.reverse)) | _ => R.no) Q := h
      cases e1 : μ[n]? with
      | none => simp only [e1] at h; exact h.elim
      | some ob =>
        cases ob with
        | lst l =>
          simp only [e1] at h
          obtain ⟨a', q1, ys, q2, q3⟩ := r.at e1
          have z : a' = a := Option.some.inj (q1.symm.trans q)
          subst z
          exact ⟨a', ys, rfl, rs, q2, h .non m _ (Go.put q2) (r.put q1 q2 q3.rev) rfl⟩
  | _ => exact h.elim
end
/-- a list's item -/
def ixL : D → D → M D
  | .ref n, z => ixD (.ref n) z
  | _, _ => M.stop
/-- o[i] = e -/
def putD (x : D) : D → D → M Unit
  | .ref n, .int i => fun μ => match μ[n]? with
    | some (.lst l) => (match ixN l.length i with
      | some j => .ok () (μ.set n (.lst (l.set j x)))
      | none => .no)
    | _ => .no
  | _, _ => fun _ => .no
def sPut (a o i : EM) : SM := fun ρ μ => RS.bind (M.thn (a ρ) (fun x => M.thn (o ρ) fun y => M.thn (i ρ) fun z => putD x y z) μ) ρ fun _ μ1 => .nx ρ μ1
/-- o[i] op= e, o a list -/
def sAugPut (f : D → D → M D) (o i a : EM) : SM := fun ρ μ => RS.bind (M.thn (o ρ) (fun y => M.thn (i ρ) fun z => M.thn (ixL y z) fun w => M.thn (a ρ) fun u => M.thn (f w u) fun x => putD x y z) μ) ρ fun _ μ1 => .nx ρ μ1
abbrev RU (_ : Hp) (_ : List Addr) (_ : Unit) (_ : Unit) : Prop := True
theorem put_ok {K : PySem.W.Frag} {E : XK} {μ : Mm} {m : List Addr} {H : Hp} {x y z : D} {v u t : V} {Q : Unit → Hp → Prop} (r : Rl K μ m H) (rx : Rep K H m x v) (ry : Rep K H m y u) (rz : Rep K H m z t) (h : Post K RU E m H (putD x y z μ) Q) : rSetL u t v H fun H1 => Q () H1 := by
  cases y with
  | ref n =>
    cases z with
    | int i =>
      obtain ⟨a, rfl, q⟩ := ry
      have h : Post K RU E m H (match μ[n]? with | some (.lst l) => (match ixN l.length i with | some j => R.ok () (μ.set n (.lst (l.set j x))) | none => R.no) | _ => R.no) Q := h
      cases e1 : μ[n]? with
      | none => simp only [e1] at h; exact h.elim
      | some ob =>
        cases ob with
        | lst l =>
          simp only [e1] at h
          obtain ⟨a', q1, ys, q2, q3⟩ := r.at e1
          have z : a' = a := Option.some.inj (q1.symm.trans q)
          subst z
          cases e2 : ixN l.length i with
          | none => simp only [e2] at h; exact h.elim
          | some j =>
            simp only [e2] at h
            exact ⟨a', ys, i, j, rfl, rz, q2, by rw [q3.len]; exact e2, h () m _ (Go.put q2) (r.put q1 q2 (Reps.set j q3 rx)) trivial⟩
    | _ => exact h.elim
  | _ => exact h.elim
section
variable {X : Cx} {E : L2.St → XK} {o i e : Expr} {φ φo φi : EM} {tpos pos : Pos}
theorem ms_put (he : PE X e (tM X.K E φ)) (ho : PE X o (tM X.K E φo)) (hi : PE X i (tM X.K E φi)) (hs : swapsWithSole [.Subscript o i tpos] e pos.line X.env = Pure.pure false := by rfl) (hw : swappedStores [.Subscript o i tpos] e X.env = Pure.pure none := by rfl)
    (h1 : (assignEach [.Subscript o i tpos] X.env).map (·.2) = [assign (.Subscript o i tpos) X.env] := by rfl)
    (ha : ∀ {to ti : TE} {t : TSet}, PE X o to → PE X i ti → PSet X t → PG X (.Subscript o i tpos) (gSub to ti t) := by intro _ _ _ a b c; exact pg_sub a b c) :
    PS X (.Assign [.Subscript o i tpos] e pos) (tS X.K E (sPut φ φo φi)) := (ps_asg he (ha ho hi set_list) hs hw h1).imp fun D1 σ H h => by
  obtain ⟨ρ, μ, m, w, h⟩ := h
  refine ⟨ρ, μ, m, w, (Post.thn (RA := Rep X.K) (Post.to (RA := RU) w h)).imp fun v H1 ⟨x, μ1, m1, g1, r1, rx, h1⟩ => ?_⟩
  refine ⟨ρ, μ1, m1, w.mono g1 r1, (Post.thn (RA := Rep X.K) h1).imp fun u H2 ⟨y, μ2, m2, g2, r2, ry, h2⟩ => ?_⟩
  refine ⟨ρ, μ2, m2, w.mono (g1.trans g2) r2, (Post.thn (RA := Rep X.K) h2).imp fun t H3 ⟨z, μ3, m3, g3, r3, rz, h3⟩ => ?_⟩
  have k := put_ok r3 (Rep.mono (g2.trans g3) _ _ rx) (Rep.mono g3 _ _ ry) rz h3
  obtain ⟨p, xs, kk, j, e1, e2, e3, e4, d, μ4, m4, g4, w4, _, h4⟩ := k
  exact ⟨p, xs, kk, j, e1, e2, e3, e4, h4 σ m4 _ Go.refl w4⟩
theorem get_list {Y : Cx} : PGet Y (rIxL Y.K) := by
  intro pins s σ H o i ov iv Q I ro ri h
  obtain ⟨p, xs, k, z, rfl, rfl, hq, he, q⟩ := h
  cases ro
  obtain ⟨t, rfl⟩ := ri
  obtain ⟨its, r, pl, hz⟩ := I.list hq
  obtain ⟨j, h1, h2, h3, h4, h5⟩ := atI_get he
  obtain ⟨w, ew, rw'⟩ := r.get h2
  have hl := r.length
  have hn := line63
  have fin : EP Y pins σ Q w s := ⟨z, H, I, rw', q⟩
  by_cases h0 : 0 ≤ k
  · have hj : k.toNat = j := by
      rw [seqIndex_of h0 h5] at h1
      exact Option.some.inj h1
    exact wpAny_getItem_list pl.isList h0 (by omega) (by rw [hj]; simpa using ew) fin
  · have hj : (k + (its.toArray.size : Int)).toNat = j := by
      rw [seqIndex_neg (by omega) h4] at h1
      rw [List.size_toArray, ← hl]
      exact Option.some.inj h1
    exact wpAny_getItem_list_neg pl.isList (by omega) (by rw [List.size_toArray] <;> omega) (by omega) (by rw [hj]; simpa using ew) fin
theorem s_ixL {K : PySem.W.Frag} : S2 K (rIxL K) ixL := fun E y z μ m H u t Q r ry rz h => by
  cases y with
  | ref n =>
    have h : Post K (Rep K) E m H (ixD (.ref n) z μ) Q := h
    cases z with
    | int j =>
      have h : Post K (Rep K) E m H (match seqOf n μ with | some l => (match atI l j with | some d => R.ok d μ | none => R.no) | none => R.no) Q := h
      cases e : seqOf n μ with
      | none => rw [e] at h; exact h.elim
      | some l =>
        obtain ⟨a, hxs, q1, qL, q3⟩ := seqOf_get r e
        obtain ⟨a', e5, e6⟩ := ry
        have z : a' = a := Option.some.inj (e6.symm.trans q1)
        subst z
        simp only [e] at h
        cases e7 : atI l j with
        | none => simp only [e7] at h; exact h.elim
        | some d =>
          simp only [e7] at h
          obtain ⟨w, w1, w2⟩ := atI_rep q3 e7
          exact ⟨a', hxs, j, w, e5, rz, qL, w1, h w m H Go.refl r w2⟩
    | _ => exact h.elim
  | _ => exact h.elim
theorem ms_augPut {op : Operator} {ti : TIp} {f : D → D → M D} (ho : PE X o (tM X.K E φo)) (hi : PE X i (tM X.K E φi)) (he : PE X e (tM X.K E φ)) (hp : PIp X op ti) (hs : S2 X.K ti f) (hax : ∀ {to ti te : TE} {tget : V → V → Hp → VK → Prop} {tip : TIp} {tset : TSet}, PE X o to → PE X i ti → PGet X tget → PE X e te → PIp X op tip → PSet X tset → PS X (.AugAssign (.Subscript o i tpos) op e pos) (tAugS to ti te tget tip tset) := by intro _ _ _ _ _ _ a b c d e f; exact ps_augS a b c d e f) :
    PS X (.AugAssign (.Subscript o i tpos) op e pos) (tS X.K E (sAugPut f φo φi φ)) := (hax ho hi get_list he hp set_list).imp fun D1 σ H h => by
  obtain ⟨ρ, μ, m, w, h⟩ := h
  refine ⟨ρ, μ, m, w, (Post.thn (RA := Rep X.K) (Post.to (RA := RU) w h)).imp fun u H1 ⟨y, μ1, m1, g1, r1, ry, h1⟩ => ?_⟩
  refine ⟨ρ, μ1, m1, w.mono g1 r1, (Post.thn (RA := Rep X.K) h1).imp fun t H2 ⟨z, μ2, m2, g2, r2, rz, h2⟩ => ?_⟩
  refine s_ixL (E σ) y z μ2 m2 H2 u t _ r2 (Rep.mono g2 _ _ ry) rz ((Post.thn (RA := Rep X.K) h2).imp fun wv H3 ⟨wd, μ3, m3, g3, r3, rw, h3⟩ => ?_)
  refine ⟨ρ, μ3, m3, w.mono ((g1.trans g2).trans g3) r3, (Post.thn (RA := Rep X.K) h3).imp fun uv H4 ⟨ud, μ4, m4, g4, r4, ru, h4⟩ => ?_⟩
  refine hs _ wd ud μ4 m4 H4 wv uv _ r4 (Rep.mono g4 _ _ rw) ru ((Post.thn (RA := Rep X.K) h4).imp fun xv H5 ⟨xd, μ5, m5, g5, r5, rx, h5⟩ => ?_)
  have k := put_ok r5 rx (Rep.mono ((g2.trans g3).trans (g4.trans g5)) _ _ ry) (Rep.mono (g3.trans (g4.trans g5)) _ _ rz) h5
  obtain ⟨p, xs, kk, j, e1, e2, e3, e4, d, μ6, m6, g6, w6, _, h6⟩ := k
  exact ⟨p, xs, kk, j, e1, e2, e3, e4, h6 σ m6 _ Go.refl w6⟩
end
end ML
namespace ML
open PySem PySem.Spec PyProof.Rows L2
theorem s_ipadd {K : PySem.W.Frag} : S2 K (ipI fun i j => i + j) addD := s_add
theorem s_ipsub {K : PySem.W.Frag} : S2 K (ipI fun i j => i - j) subD := s_sub
/-- a written tuple of the module's -/
theorem rep_k {K : PySem.W.Frag} {a : Addr} {dd : Option Addr} {its : Array Value} {n : Nat} {sl : Array (Option Value)} {l : List D} {xs : List V} {H : Hp} {m : List Addr} (h : K.lookup a = some ⟨.type "tuple", dd, .seq its n, sl⟩) (hz : its.size ≤ sizeLine) (hv : Vals xs its.toList) (hr : Reps K H m l xs) : Rep K H m (.tup l) (.ref a) :=
  ⟨a, xs, rfl, .inr ⟨_, its, n, h, rfl, rfl, hz, hv⟩, hr⟩
end ML
namespace ML
open PySem PySem.Spec PyProof.Rows L2
/-- an equation that simp is not to take for one by computation alone -/
theorem nrfl {α : Sort _} {a b : α} (h : a = b) : a = b := h
/-! ### what holds behind a run, by computing backwards -/
def WP {α : Type} (r : R α) (P : α → Mm → Prop) (X : Exn → Mm → Prop) : Prop := match r with
  | .ok a μ => P a μ
  | .ex e μ => X e μ
  | .no => False
structure Kt where
  nx : En → Mm → Prop
  rt : D → Mm → Prop
  bk : En → Mm → Prop
  ct : En → Mm → Prop
  ex : Exn → En → Mm → Prop
def WS (r : RS) (k : Kt) : Prop := match r with
  | .nx ρ μ => k.nx ρ μ
  | .rt d μ => k.rt d μ
  | .bk ρ μ => k.bk ρ μ
  | .ct ρ μ => k.ct ρ μ
  | .ex e ρ μ => k.ex e ρ μ
  | .no => False
section
variable {α β : Type} {ρ : En} {μ : Mm} {P : α → Mm → Prop} {X : Exn → Mm → Prop} {Q : D → Mm → Prop} {B : Bool → Mm → Prop} {L : List D → Mm → Prop} {k : Kt} {a b : EM} {c1 c2 : TM} {s t : SM} {f : D → M D} {g : D → D → M D} {fl : List D → M D}
theorem w_ok {d : α} : WP (.ok d μ) P X = P d μ := nrfl rfl
theorem w_ex {e : Exn} : WP (.ex e μ) P X = X e μ := nrfl rfl
theorem w_no : WP (.no : R α) P X = False := nrfl rfl
theorem w_ret {d : α} : WP (M.ret d μ) P X = P d μ := nrfl rfl
theorem w_stop : WP ((M.stop : M α) μ) P X = False := nrfl rfl
theorem w_thn {x : M β} {y : β → M α} : WP (M.thn x y μ) P X = WP (x μ) (fun d μ1 => WP (y d μ1) P X) X := by
  unfold M.thn
  cases x μ <;> rfl
theorem w_var {i : Nat} : WP (eV i ρ μ) Q X = match ρ[i]? with
    | some (some d) => Q d μ
    | _ => False := by
  unfold eV
  cases ρ[i]? with
  | none => rfl
  | some o => cases o <;> rfl
theorem w_c {d : D} : WP (eC d ρ μ) Q X = Q d μ := nrfl rfl
theorem w_e1 : WP (e1 f a ρ μ) Q X = WP (a ρ μ) (fun d μ1 => WP (f d μ1) Q X) X := w_thn
theorem w_e2 : WP (e2 g a b ρ μ) Q X = WP (a ρ μ) (fun d μ1 => WP (b ρ μ1) (fun e μ2 => WP (g d e μ2) Q X) X) X := by
  show WP (M.thn (a ρ) (fun x => M.thn (b ρ) fun y => g x y) μ) Q X = _
  rw [w_thn]
  congr 1
  funext d μ1
  rw [w_thn]
theorem w_anil : WP (aNil ρ μ) L X = L [] μ := nrfl rfl
theorem w_acons {r : AM} : WP (aCons a r ρ μ) L X = WP (a ρ μ) (fun d μ1 => WP (r ρ μ1) (fun ds μ2 => L (d :: ds) μ2) X) X := by
  show WP (M.thn (a ρ) (fun x => M.thn (r ρ) fun xs => M.ret (x :: xs)) μ) L X = _
  rw [w_thn]
  congr 1
  funext d μ1
  rw [w_thn]
  rfl
theorem w_args {r : AM} : WP (eArgs fl r ρ μ) Q X = WP (r ρ μ) (fun ds μ1 => WP (fl ds μ1) Q X) X := w_thn
theorem w_asB {x : D} : WP (asB x μ) B X = match x with
    | .bl k => B k μ
    | _ => False := by
  cases x <;> rfl
theorem w_val : WP (cVal a ρ μ) B X = WP (a ρ μ) (fun d μ1 => match d with
    | .bl k => B k μ1
    | _ => False) X := by
  show WP (M.thn (a ρ) asB μ) B X = _
  rw [w_thn]
  congr 1
  funext d μ1
  rw [w_asB]
theorem w_cand : WP (cAnd c1 c2 ρ μ) B X = WP (c1 ρ μ) (fun k μ1 => if k then WP (c2 ρ μ1) B X else B false μ1) X := by
  show WP (M.thn (c1 ρ) _ μ) B X = _
  rw [w_thn]
  congr 1
  funext k μ1
  cases k <;> rfl
theorem w_cor : WP (cOr c1 c2 ρ μ) B X = WP (c1 ρ μ) (fun k μ1 => if k then B true μ1 else WP (c2 ρ μ1) B X) X := by
  show WP (M.thn (c1 ρ) _ μ) B X = _
  rw [w_thn]
  congr 1
  funext k μ1
  cases k <;> rfl
theorem w_cnot : WP (cNot c1 ρ μ) B X = WP (c1 ρ μ) (fun k μ1 => B (!k) μ1) X := by
  show WP (M.thn (c1 ρ) _ μ) B X = _
  rw [w_thn]
  rfl
theorem w_cyes : WP (cYes ρ μ) B X = B true μ := nrfl rfl
theorem w_eif : WP (eIf c1 a b ρ μ) Q X = WP (c1 ρ μ) (fun k μ1 => if k then WP (a ρ μ1) Q X else WP (b ρ μ1) Q X) X := by
  show WP (M.thn (c1 ρ) _ μ) Q X = _
  rw [w_thn]
  congr 1
  funext k μ1
  cases k <;> rfl
theorem w_eand : WP (eAnd a b ρ μ) Q X = WP (a ρ μ) (fun d μ1 => match d with
    | .bl k => if k then WP (b ρ μ1) Q X else Q (.bl false) μ1
    | _ => False) X := by
  show WP (M.thn (a ρ) _ μ) Q X = _
  rw [w_thn]
  congr 1
  funext d μ1
  rw [w_thn, w_asB]
  cases d <;> try rfl
  rename_i k
  cases k <;> rfl
theorem w_eor : WP (eOr a b ρ μ) Q X = WP (a ρ μ) (fun d μ1 => match d with
    | .bl k => if k then Q (.bl true) μ1 else WP (b ρ μ1) Q X
    | _ => False) X := by
  show WP (M.thn (a ρ) _ μ) Q X = _
  rw [w_thn]
  congr 1
  funext d μ1
  rw [w_thn, w_asB]
  cases d <;> try rfl
  rename_i k
  cases k <;> rfl
theorem w_enot : WP (eNot a ρ μ) Q X = WP (a ρ μ) (fun d μ1 => match d with
    | .bl k => Q (.bl (!k)) μ1
    | _ => False) X := by
  show WP (M.thn (a ρ) _ μ) Q X = _
  rw [w_thn]
  congr 1
  funext d μ1
  rw [w_thn, w_asB]
  cases d <;> rfl
theorem w_mktup {l : List D} : WP (mkTup l μ) Q X = (l.length ≤ sizeLine ∧ Q (.tup l) μ) := by
  unfold mkTup
  by_cases h : l.length ≤ sizeLine
  · rw [if_pos h]
    exact propext ⟨fun q => ⟨h, q⟩, fun q => q.2⟩
  · rw [if_neg h]
    exact propext ⟨fun q => q.elim, fun q => (h q.1).elim⟩
theorem w_mklst {l : List D} : WP (mkLst l μ) Q X = (l.length ≤ sizeLine ∧ Q (.ref μ.length) (μ ++ [.lst l])) := by
  unfold mkLst
  by_cases h : l.length ≤ sizeLine
  · rw [if_pos h]
    exact propext ⟨fun q => ⟨h, q⟩, fun q => q.2⟩
  · rw [if_neg h]
    exact propext ⟨fun q => q.elim, fun q => (h q.1).elim⟩
/-! operators on ints -/
theorem w_add {i j : Int} : WP (addD (.int i) (.int j) μ) Q X = Q (.int (i + j)) μ := nrfl rfl
theorem w_sub {i j : Int} : WP (subD (.int i) (.int j) μ) Q X = Q (.int (i - j)) μ := nrfl rfl
theorem w_if {c : Prop} [Decidable c] {d : α} : WP (if c then R.ok d μ else R.no) P X = (c ∧ P d μ) := by
  by_cases h : c
  · rw [if_pos h]
    exact propext ⟨fun q => ⟨h, q⟩, fun q => q.2⟩
  · rw [if_neg h]
    exact propext ⟨fun q => q.elim, fun q => (h q.1).elim⟩
theorem w_mul {i j : Int} : WP (mulD (.int i) (.int j) μ) Q X = (CMulA i j ∧ Q (.int (i * j)) μ) := w_if
theorem w_fdiv {i j : Int} : WP (fdivD (.int i) (.int j) μ) Q X = ((0 < j ∧ j.natAbs.log2 < 9000) ∧ Q (.int (i / j)) μ) := w_if
theorem w_mod {i j : Int} : WP (modD (.int i) (.int j) μ) Q X = (0 < j ∧ Q (.int (i % j)) μ) := w_if
theorem w_pow {i j : Int} : WP (powD (.int i) (.int j) μ) Q X = ((0 ≤ j ∧ j ≤ 1000000 ∧ i.natAbs < 2 ^ 64) ∧ Q (.int (i ^ j.toNat)) μ) := w_if
theorem w_shl {i j : Int} : WP (shlD (.int i) (.int j) μ) Q X = ((0 ≤ j ∧ j ≤ 1000000 ∧ i.natAbs < 2 ^ 64) ∧ Q (.int (i * 2 ^ j.toNat)) μ) := w_if
theorem w_neg {i : Int} : WP (negD (.int i) μ) Q X = Q (.int (-i)) μ := nrfl rfl
theorem w_lt {i j : Int} : WP (ltD (.int i) (.int j) μ) Q X = Q (.bl (decide (i < j))) μ := nrfl rfl
theorem w_le {i j : Int} : WP (leD (.int i) (.int j) μ) Q X = Q (.bl (decide (i ≤ j))) μ := nrfl rfl
theorem w_gt {i j : Int} : WP (gtD (.int i) (.int j) μ) Q X = Q (.bl (decide (j < i))) μ := nrfl rfl
theorem w_ge {i j : Int} : WP (geD (.int i) (.int j) μ) Q X = Q (.bl (decide (j ≤ i))) μ := nrfl rfl
theorem w_is {x : D} : WP (isD x .non μ) Q X = Q (.bl (isNon x)) μ := by cases x <;> rfl
theorem w_isnt {x : D} : WP (isntD x .non μ) Q X = Q (.bl (!isNon x)) μ := by cases x <;> rfl
theorem shaped_int (i : Int) : SeqAt.shaped (.int i) = true := by simp [SeqAt.shaped, PyData.canLay0, PyData.depth]
theorem eqB_int (i j : Int) : eqB (.int i) (.int j) = some (i == j) := by
  simp [eqB, toPy, shaped_int, PyData.eqv]
theorem w_eqI {i j : Int} : WP (eqD (.int i) (.int j) μ) Q X = Q (.bl (decide (i = j))) μ := by
  unfold eqD
  rw [eqB_int, Bool.beq_eq_decide_eq]
  rfl
theorem w_neI {i j : Int} : WP (neD (.int i) (.int j) μ) Q X = Q (.bl (!decide (i = j))) μ := by
  unfold neD
  rw [eqB_int, Bool.beq_eq_decide_eq]
  rfl
theorem w_eqB {x y : D} {r : Bool} (h : eqB x y = some r) : WP (eqD x y μ) Q X = Q (.bl r) μ := by
  unfold eqD
  rw [h]
  rfl
theorem w_neB {x y : D} {r : Bool} (h : eqB x y = some r) : WP (neD x y μ) Q X = Q (.bl (!r)) μ := by
  unfold neD
  rw [h]
  rfl
theorem w_ixT {l : List D} {i : Int} : WP (ixD (.tup l) (.int i) μ) Q X = match atI l i with
    | some d => Q d μ
    | none => False := by
  show WP (match atI l i with | some d => R.ok d μ | none => R.no) Q X = _
  cases atI l i <;> rfl
theorem w_ixR {n : Nat} {i : Int} : WP (ixD (.ref n) (.int i) μ) Q X = match seqOf n μ with
    | some l => (match atI l i with
      | some d => Q d μ
      | none => False)
    | none => False := by
  show WP (match seqOf n μ with | some l => (match atI l i with | some d => R.ok d μ | none => R.no) | none => R.no) Q X = _
  cases seqOf n μ with
  | none => rfl
  | some l =>
    simp only []
    cases atI l i <;> rfl
/-! statements -/
theorem w_nop : WS (sNop ρ μ) k = k.nx ρ μ := nrfl rfl
theorem w_seq : WS (sSeq s t ρ μ) k = WS (s ρ μ) ⟨fun ρ1 μ1 => WS (t ρ1 μ1) k, k.rt, k.bk, k.ct, k.ex⟩ := by
  unfold sSeq
  cases s ρ μ <;> rfl
theorem w_bind {x : R α} {f : α → Mm → RS} : WS (RS.bind x ρ f) k = WP x (fun d μ1 => WS (f d μ1) k) (fun e μ1 => k.ex e ρ μ1) := by
  cases x <;> rfl
theorem w_drop : WS (sDrop a ρ μ) k = WP (a ρ μ) (fun _ μ1 => k.nx ρ μ1) (fun e μ1 => k.ex e ρ μ1) := w_bind
theorem w_sret : WS (sRet a ρ μ) k = WP (a ρ μ) (fun d μ1 => k.rt d μ1) (fun e μ1 => k.ex e ρ μ1) := w_bind
theorem w_sretN : WS (sRetN ρ μ) k = k.rt .non μ := nrfl rfl
theorem w_sif : WS (sIf c1 s t ρ μ) k = WP (c1 ρ μ) (fun d μ1 => if d then WS (s ρ μ1) k else WS (t ρ μ1) k) (fun e μ1 => k.ex e ρ μ1) := by
  show WS (RS.bind _ _ _) k = _
  rw [w_bind]
  congr 1
  funext d μ1
  cases d <;> rfl
theorem w_brk : WS (sBrk ρ μ) k = k.bk ρ μ := nrfl rfl
theorem w_cnt : WS (sCnt ρ μ) k = k.ct ρ μ := nrfl rfl
theorem w_asg {g : Tg} : WS (sAsg a g ρ μ) k = WP (a ρ μ) (fun d μ1 => match g d ρ with
    | some ρ1 => k.nx ρ1 μ1
    | none => False) (fun e μ1 => k.ex e ρ μ1) := by
  show WS (RS.bind _ _ _) k = _
  rw [w_bind]
  congr 1
  funext d μ1
  cases g d ρ <;> rfl
theorem w_set {i : Nat} : WS (sAsg a (gN i) ρ μ) k = WP (a ρ μ) (fun d μ1 => k.nx (ρ.set i (some d)) μ1) (fun e μ1 => k.ex e ρ μ1) := w_asg
theorem w_par {i j : Nat} {r : AM} : WS (sPar i j r ρ μ) k = WP (r ρ μ) (fun ds μ1 => match ds with
    | [d, e] => k.nx ((ρ.set i (some d)).set j (some e)) μ1
    | _ => False) (fun e μ1 => k.ex e ρ μ1) := by
  show WS (RS.bind _ _ _) k = _
  rw [w_bind]
  congr 1
  funext ds μ1
  match ds with
  | [] => rfl
  | [_] => rfl
  | [_, _] => rfl
  | _ :: _ :: _ :: _ => rfl
theorem w_aug {i : Nat} : WS (sAug i g a ρ μ) k = match ρ[i]? with
    | some (some x) => WP (a ρ μ) (fun y μ1 => WP (g x y μ1) (fun d μ2 => k.nx (ρ.set i (some d)) μ2) (fun e μ2 => k.ex e ρ μ2)) (fun e μ1 => k.ex e ρ μ1)
    | _ => False := by
  unfold sAug
  cases ρ[i]? with
  | none => rfl
  | some o =>
    cases o with
    | none => rfl
    | some x =>
      simp only []
      rw [w_bind, w_thn]
      rfl
theorem w_put {o i : EM} : WS (sPut a o i ρ μ) k = WP (a ρ μ) (fun x μ1 => WP (o ρ μ1) (fun y μ2 => WP (i ρ μ2) (fun z μ3 => WP (putD x y z μ3) (fun _ μ4 => k.nx ρ μ4) (fun e μ4 => k.ex e ρ μ4)) (fun e μ4 => k.ex e ρ μ4)) (fun e μ4 => k.ex e ρ μ4)) (fun e μ4 => k.ex e ρ μ4) := by
  show WS (RS.bind _ _ _) k = _
  rw [w_bind]
  simp only [w_thn]
  rfl
theorem w_putD {x : D} {n : Nat} {i : Int} {P : Unit → Mm → Prop} : WP (putD x (.ref n) (.int i) μ) P X = match seqOf n μ with
    | some l => (match ixN l.length i with
      | some j => P () (μ.set n (.lst (l.set j x)))
      | none => False)
    | none => False := by
  show WP (match μ[n]? with | some (.lst l) => (match ixN l.length i with | some j => R.ok () (μ.set n (.lst (l.set j x))) | none => R.no) | _ => R.no) P X = _
  unfold seqOf
  cases μ[n]? with
  | none => rfl
  | some o =>
    cases o with
    | lst l =>
      simp only []
      cases ixN l.length i <;> rfl
theorem w_augput {o i : EM} : WS (sAugPut g o i a ρ μ) k = WP (o ρ μ) (fun y μ1 => WP (i ρ μ1) (fun z μ2 => WP (ixL y z μ2) (fun w μ3 => WP (a ρ μ3) (fun u μ4 => WP (g w u μ4) (fun x μ5 => WP (putD x y z μ5) (fun _ μ6 => k.nx ρ μ6) (fun e μ4 => k.ex e ρ μ4)) (fun e μ4 => k.ex e ρ μ4)) (fun e μ4 => k.ex e ρ μ4)) (fun e μ4 => k.ex e ρ μ4)) (fun e μ4 => k.ex e ρ μ4)) (fun e μ4 => k.ex e ρ μ4) := by
  show WS (RS.bind _ _ _) k = _
  rw [w_bind]
  simp only [w_thn]
  rfl
theorem w_ixL {n : Nat} {z : D} : WP (ixL (.ref n) z μ) Q X = WP (ixD (.ref n) z μ) Q X := nrfl rfl
theorem w_mt0 {T : String} : WP (eMt0 T f a ρ μ) Q X = WP (a ρ μ) (fun x μ1 => isTy T x μ1 = true ∧ WP (f x μ1) Q X) X := by
  unfold eMt0
  rw [w_thn]
  congr 1
  funext x μ1
  by_cases h : isTy T x μ1 = true
  · simp only [h, if_true]; simp
  · simp only [h]; simp [WP]
theorem w_mt {T : String} {f : D → List D → M D} {r : AM} : WP (eMt T f a r ρ μ) Q X = WP (a ρ μ) (fun x μ1 => isTy T x μ1 = true ∧ WP (r ρ μ1) (fun xs μ2 => WP (f x xs μ2) Q X) X) X := by
  unfold eMt
  rw [w_thn]
  congr 1
  funext x μ1
  by_cases h : isTy T x μ1 = true
  · simp only [h, if_true, w_thn]; simp
  · simp only [h]; simp [WP]
theorem isTy_lst {n : Nat} : isTy "list" (.ref n) μ = (seqOf n μ).isSome := by simp [isTy]
theorem w_append {n : Nat} {y : D} : WP (appD (.ref n) [y] μ) Q X = match seqOf n μ with
    | some l => l.length < sizeLine ∧ Q .non (μ.set n (.lst (l ++ [y])))
    | none => False := by
  show WP (match μ[n]? with | some (.lst l) => if l.length < sizeLine then R.ok .non (μ.set n (.lst (l ++ [y]))) else R.no | _ => R.no) Q X = _
  unfold seqOf
  cases μ[n]? with
  | none => rfl
  | some o =>
    cases o with
    | lst l => exact w_if
theorem w_reverse {n : Nat} : WP (revD (.ref n) [] μ) Q X = match seqOf n μ with
    | some l => Q .non (μ.set n (.lst l.reverse))
    | none => False := by
  show WP (match μ[n]? with | some (.lst l) => R.ok .non (μ.set n (.lst l.reverse)) | _ => R.no) Q X = _
  unfold seqOf
  cases μ[n]? with
  | none => rfl
  | some o =>
    cases o with
    | lst l => rfl
/-! builtins -/
theorem w_isi {x : D} {n : String} {T : String} {r : Bool} (h : tyName x μ = some T) (h2 : kitB T n = some r) : WP (isiL [x, .ty n] μ) Q X = Q (.bl r) μ := by
  show WP (match tyName x μ with | some T => (match kitB T n with | some b => R.ok (.bl b) μ | none => R.no) | none => R.no) Q X = _
  rw [h]
  simp only [h2]
  rfl
theorem w_lenT {l : List D} : WP (lenL [.tup l] μ) Q X = Q (.int l.length) μ := nrfl rfl
theorem w_lenR {n : Nat} : WP (lenL [.ref n] μ) Q X = match seqOf n μ with
    | some l => Q (.int l.length) μ
    | none => False := by
  show WP (match seqOf n μ with | some l => R.ok (.int l.length) μ | none => R.no) Q X = _
  cases seqOf n μ <;> rfl
theorem w_abs {i : Int} : WP (absL [.int i] μ) Q X = Q (.int (if i < 0 then -i else i)) μ := nrfl rfl
theorem w_intI {i : Int} : WP (intL [.int i] μ) Q X = Q (.int i) μ := nrfl rfl
theorem w_intB {i : Bool} : WP (intL [.bl i] μ) Q X = Q (.int (if i then 1 else 0)) μ := nrfl rfl
theorem w_gcd {i j : Int} : WP (gcdL [.int i, .int j] μ) Q X = Q (.int ((Nat.gcd i.natAbs j.natAbs : Nat) : Int)) μ := nrfl rfl
theorem w_tupT {l : List D} : WP (tupleL [.tup l] μ) Q X = Q (.tup l) μ := nrfl rfl
theorem w_tupR {n : Nat} : WP (tupleL [.ref n] μ) Q X = match seqOf n μ with
    | some l => Q (.tup l) μ
    | none => False := by
  show WP (match seqOf n μ with | some l => R.ok (.tup l) μ | none => R.no) Q X = _
  cases seqOf n μ <;> rfl
theorem w_listT {l : List D} : WP (listL [.tup l] μ) Q X = Q (.ref μ.length) (μ ++ [.lst l]) := nrfl rfl
theorem w_allR {n : Nat} : WP (allL [.ref n] μ) Q X = match seqOf n μ with
    | some l => (match allBl l with
      | some bs => Q (.bl (bs.all id)) μ
      | none => False)
    | none => False := by
  show WP (match seqOf n μ with | some l => (match allBl l with | some bs => R.ok (.bl (bs.all id)) μ | none => R.no) | none => R.no) Q X = _
  cases seqOf n μ with
  | none => rfl
  | some l =>
    simp only []
    cases allBl l <;> rfl
/-! a def -/
theorem w_fn {n np : Nat} {ψ : SM} {ds : List D} (h : ds.length = np) : WP (fnN n np ψ ds μ) Q X = WS (ψ (ds.map some ++ List.replicate (n - np) none) μ) ⟨fun _ μ1 => Q .non μ1, Q, fun _ _ => False, fun _ _ => False, fun _ _ _ => False⟩ := by
  unfold fnN
  rw [if_pos h]
  cases ψ (ds.map some ++ List.replicate (n - np) none) μ <;> rfl
theorem fn_in {n np : Nat} {ψ : SM} {ds : List D} (h : ds.length = np) (q : WS (ψ (ds.map some ++ List.replicate (n - np) none) μ) ⟨fun _ μ1 => Q .non μ1, Q, fun _ _ => False, fun _ _ => False, fun _ _ _ => False⟩) : WP (fnN n np ψ ds μ) Q X := by rw [w_fn h]; exact q
theorem WP.imp {r : R α} {P P' : α → Mm → Prop} {X X' : Exn → Mm → Prop} (h : WP r P X) (i : ∀ a μ, P a μ → P' a μ) (j : ∀ e μ, X e μ → X' e μ) : WP r P' X' := by
  cases r with
  | ok a μ => exact i a μ h
  | ex e μ => exact j e μ h
  | no => exact h
theorem WS.imp {r : RS} {k k' : Kt} (h : WS r k) (hn : ∀ ρ μ, k.nx ρ μ → k'.nx ρ μ) (hr : ∀ d μ, k.rt d μ → k'.rt d μ) (hb : ∀ ρ μ, k.bk ρ μ → k'.bk ρ μ) (hc : ∀ ρ μ, k.ct ρ μ → k'.ct ρ μ) (hx : ∀ e ρ μ, k.ex e ρ μ → k'.ex e ρ μ) : WS r k' := by
  cases r with
  | nx ρ μ => exact hn ρ μ h
  | rt d μ => exact hr d μ h
  | bk ρ μ => exact hb ρ μ h
  | ct ρ μ => exact hc ρ μ h
  | ex e ρ μ => exact hx e ρ μ h
  | no => exact h
theorem WP.to_ok {r : R α} {P : α → Mm → Prop} (h : WP r P fun _ _ => False) : ∃ a μ, r = .ok a μ ∧ P a μ := by
  cases r with
  | ok a μ => exact ⟨a, μ, rfl, h⟩
  | ex e μ => exact h.elim
  | no => exact h.elim
end
/-! loops -/
section
variable {μ : Mm} {k : Kt} {it : DI} {g : Tg} {body : SM}
/-- a loop by an invariant over the turn's number: items are what it walks -/
theorem loop_inv (items : List D) (P : Nat → En → Mm → Prop) (hit : ∀ i ρ μ, P i ρ μ → it μ i = some items[i]?)
    (hs : ∀ i d ρ μ, items[i]? = some d → P i ρ μ → ∃ ρ1, g d ρ = some ρ1 ∧ WS (body ρ1 μ) ⟨P (i + 1), k.rt, k.nx, P (i + 1), k.ex⟩)
    (hd : ∀ ρ μ, P items.length ρ μ → k.nx ρ μ) : ∀ (f i : Nat) (ρ : En) (μ : Mm), i ≤ items.length → items.length < f + i → P i ρ μ → WS (loop it g body f i ρ μ) k
  | 0, i, ρ, μ, h1, h2, p => absurd h2 (by omega)
  | f + 1, i, ρ, μ, h1, h2, p => by
    unfold loop
    rw [hit i ρ μ p]
    cases e : items[i]? with
    | none =>
      have : items.length ≤ i := List.getElem?_eq_none_iff.mp e
      have e2 : i = items.length := by omega
      subst e2
      exact hd ρ μ p
    | some d =>
      have hi : i < items.length := (List.getElem?_eq_some_iff.mp e).1
      obtain ⟨ρ1, q1, q2⟩ := hs i d ρ μ e p
      simp only [q1]
      cases e3 : body ρ1 μ with
      | nx ρ2 μ2 =>
        rw [e3] at q2
        exact loop_inv items P hit hs hd f (i + 1) ρ2 μ2 (by omega) (by omega) q2
      | ct ρ2 μ2 =>
        rw [e3] at q2
        exact loop_inv items P hit hs hd f (i + 1) ρ2 μ2 (by omega) (by omega) q2
      | bk ρ2 μ2 => rw [e3] at q2; exact q2
      | rt d2 μ2 => rw [e3] at q2; exact q2
      | ex e2 ρ2 μ2 => rw [e3] at q2; exact q2
      | no => rw [e3] at q2; exact q2.elim
theorem w_for {ι : En → M DI} {ρ : En} : WS (sFor ι g body ρ μ) k = WP (ι ρ μ) (fun it μ1 => WS (loop it g body FUEL 0 ρ μ1) k) (fun e μ1 => k.ex e ρ μ1) := w_bind
theorem w_itT {l : List D} {P : DI → Mm → Prop} {X : Exn → Mm → Prop} : WP (itOf (.tup l) μ) P X = P (itT l) μ := nrfl rfl
theorem w_itF {l : List D} {P : DI → Mm → Prop} {X : Exn → Mm → Prop} : WP (itOf (.sq l) μ) P X = P (itT l) μ := nrfl rfl
theorem w_itR {n : Nat} {P : DI → Mm → Prop} {X : Exn → Mm → Prop} : WP (itOf (.ref n) μ) P X = (isSeq n μ = true ∧ P (itS n) μ) := w_if
theorem w_rng1 {j : Int} {P : DI → Mm → Prop} {X : Exn → Mm → Prop} : WP (rng1 [.int j] μ) P X = (okR j = true ∧ P (itR 0 j.toNat) μ) := by
  show WP ((if okR j then M.ret (itR 0 j.toNat) else M.stop : M DI) μ) P X = _
  by_cases h : okR j = true
  · rw [if_pos h]
    exact propext ⟨fun q => ⟨h, q⟩, fun q => q.2⟩
  · rw [if_neg h]
    exact propext ⟨fun q => q.elim, fun q => (h q.1).elim⟩
theorem w_zipT {a b : List D} {P : DI → Mm → Prop} {X : Exn → Mm → Prop} : WP (zipOf [.tup a, .tup b] μ) P X = P (itZ (itT a) (itT b)) μ := nrfl rfl
/-- a range's items -/
def rngL (lo : Int) (n : Nat) : List D := (List.range n).map fun (i : Nat) => .int (lo + (i : Int))
theorem rngL_len (lo : Int) (n : Nat) : (rngL lo n).length = n := by simp [rngL]
theorem rngL_it (lo : Int) (n : Nat) (i : Nat) : itR lo n μ i = some (rngL lo n)[i]? := by
  unfold itR rngL
  rw [List.getElem?_map]
  by_cases h : i < n
  · rw [if_pos h, List.getElem?_range h]; rfl
  · rw [if_neg h, List.getElem?_eq_none (by simp; omega)]; rfl
/-- two tuples of one length walked together -/
def zipL : List D → List D → List D
  | x :: a, y :: b => .tup [x, y] :: zipL a b
  | _, _ => []
theorem zipL_it : ∀ (a b : List D) (i : Nat), itZ (itT a) (itT b) μ i = some (zipL a b)[i]?
  | [], [], i => by simp [itZ, itT, zipL]
  | [], y :: b, i => by
    simp only [itZ, itT, zipL]
    cases (y :: b)[i]? <;> simp
  | x :: a, [], i => by
    simp only [itZ, itT, zipL]
    cases (x :: a)[i]? <;> simp
  | x :: a, y :: b, 0 => by simp [itZ, itT, zipL]
  | x :: a, y :: b, i + 1 => by
    have h := zipL_it a b i
    simp only [itZ, itT] at h ⊢
    simpa [zipL] using h
theorem zipL_len : ∀ (a b : List D), a.length = b.length → (zipL a b).length = a.length
  | [], [], _ => rfl
  | x :: a, y :: b, h => by
    have := zipL_len a b (by simpa using h)
    simp [zipL, this]
  | [], y :: b, h => by simp at h
  | x :: a, [], h => by simp at h
theorem zipL_get : ∀ {a b : List D} {i : Nat} {d : D}, (zipL a b)[i]? = some d → ∃ x y, a[i]? = some x ∧ b[i]? = some y ∧ d = .tup [x, y]
  | [], _, i, d, h => by simp [zipL] at h
  | x :: a, [], i, d, h => by simp [zipL] at h
  | x :: a, y :: b, 0, d, h => ⟨x, y, rfl, rfl, by simpa [zipL] using h.symm⟩
  | x :: a, y :: b, i + 1, d, h => by
    obtain ⟨u, v, h1, h2, h3⟩ := zipL_get (a := a) (b := b) (i := i) (by simpa [zipL] using h)
    exact ⟨u, v, by simpa using h1, by simpa using h2, h3⟩
/-- a comprehension by an invariant over the turn's number -/
theorem lc_inv {c : TM} {e : EM} {n : Nat} {ρ0 : En} (items : List D) (P : Nat → Mm → Prop) (Q : Mm → Prop) (hit : ∀ i μ, P i μ → it μ i = some items[i]?)
    (hs : ∀ i d μ, items[i]? = some d → P i μ → ∃ ρ1, g d ρ0 = some ρ1 ∧ WP (c ρ1 μ) (fun k μ1 => if k then WP (e ρ1 μ1) (fun y μ2 => match seqOf n μ2 with
      | some acc => acc.length < sizeLine ∧ P (i + 1) (μ2.set n (.lst (acc ++ [y])))
      | none => False) (fun _ _ => False) else P (i + 1) μ1) (fun _ _ => False))
    (hd : ∀ μ, P items.length μ → Q μ) : ∀ (f i : Nat) (μ : Mm), i ≤ items.length → items.length < f + i → P i μ → ∃ μ1, lcLoop it g c e n ρ0 f i μ = .ok () μ1 ∧ Q μ1
  | 0, i, μ, h1, h2, p => absurd h2 (by omega)
  | f + 1, i, μ, h1, h2, p => by
    unfold lcLoop
    rw [hit i μ p]
    cases h : items[i]? with
    | none =>
      have : items.length ≤ i := List.getElem?_eq_none_iff.mp h
      have e2 : i = items.length := by omega
      subst e2
      exact ⟨μ, rfl, hd μ p⟩
    | some d =>
      have hi : i < items.length := (List.getElem?_eq_some_iff.mp h).1
      obtain ⟨ρ1, q1, q2⟩ := hs i d μ h p
      simp only [q1]
      cases e3 : c ρ1 μ with
      | ok b μ1 =>
        rw [e3] at q2
        cases b with
        | false =>
          simp only [Bool.false_eq_true, if_false]
          exact lc_inv items P Q hit hs hd f (i + 1) μ1 (by omega) (by omega) q2
        | true =>
          simp only [if_true]
          have q3 : WP (e ρ1 μ1) _ _ := q2
          cases e4 : e ρ1 μ1 with
          | ok y μ2 =>
            rw [e4] at q3
            have q4 : (match seqOf n μ2 with | some acc => acc.length < sizeLine ∧ P (i + 1) (μ2.set n (.lst (acc ++ [y]))) | none => False) := q3
            unfold seqOf at q4
            cases e5 : μ2[n]? with
            | none => rw [e5] at q4; exact q4.elim
            | some o =>
              cases o with
              | lst acc =>
                rw [e5] at q4
                obtain ⟨q5, q6⟩ := q4
                simp only [e5, if_pos q5]
                exact lc_inv items P Q hit hs hd f (i + 1) _ (by omega) (by omega) q6
          | ex x μ2 => rw [e4] at q3; exact q3.elim
          | no => rw [e4] at q3; exact q3.elim
      | ex x μ1 => rw [e3] at q2; exact q2.elim
      | no => rw [e3] at q2; exact q2.elim
theorem w_lc {ι : En → M DI} {c : TM} {e : EM} {vs : List Nat} {ρ : En} {Q : D → Mm → Prop} {X : Exn → Mm → Prop} : WP (eLc ι g c e vs ρ μ) Q X = WP (ι ρ μ) (fun it μ1 => ∃ μ2, lcLoop it g c e μ1.length (wipeD ρ vs) FUEL 0 (μ1 ++ [.lst []]) = .ok () μ2 ∧ Q (.ref μ1.length) μ2) X := by
  unfold eLc
  rw [w_thn]
  congr 1
  funext it μ1
  cases h : lcLoop it g c e μ1.length (wipeD ρ vs) FUEL 0 (μ1 ++ [.lst []]) with
  | ok u μ2 =>
    simp only []
    exact propext ⟨fun q => ⟨μ2, rfl, q⟩, fun ⟨μ3, e1, q⟩ => by cases e1; exact q⟩
  | ex x μ2 => exact propext ⟨fun q => q.elim, fun ⟨_, e1, _⟩ => by cases e1⟩
  | no => exact propext ⟨fun q => q.elim, fun ⟨_, e1, _⟩ => by cases e1⟩
end
end ML
namespace ML
open PySem PySem.Spec PyProof.Rows L2
theorem reps_ints {K : PySem.W.Frag} {H : Hp} {m : List Addr} : ∀ ns : List Int, Reps K H m (ns.map D.int) (ns.map V.int)
  | [] => rfl
  | n :: ns => ⟨_, _, rfl, rfl, reps_ints ns⟩
/-- the law's own end: what its data-level def gives over the script -/
theorem law_end {K : PySem.W.Frag} {H : Hp} {a : Addr} {ns : List Int} {F : Fn} {E : XK} (hO : Only H) (hS : SqL K H a (ns.map V.int)) (h : WP (F [.sq (ns.map D.int)] []) (fun d _ => d = .bl true) (fun _ _ => False)) :
    spN K F [.ref a] H (fun v _ => v = .bl true) E := by
  have hF : SqF K H a (ns.map V.int) := by
    rcases hS with (hS | ⟨o, hS⟩) | hS
    · rcases hO a with e | ⟨o, xs, e⟩
      · rw [e] at hS; cases hS
      · rw [e] at hS; cases hS
    · exact .inl ⟨o, hS⟩
    · exact .inr hS
  refine ⟨[.sq (ns.map D.int)], [], [], ⟨_, _, rfl, ⟨a, _, rfl, hF, reps_ints ns⟩, rfl⟩, ⟨rfl, List.nodup_nil, fun n o a h1 _ => by simp at h1⟩, ?_⟩
  obtain ⟨d, μ1, e, rfl⟩ := WP.to_ok h
  rw [e]
  exact fun v m1 H1 _ _ r => r
end ML
namespace G
open PySem PySem.Spec PyProof.Rows L2 ML
def topS (i : Nat) : Stmt := PySem.Challenge.pw_wishpanes_k87_snapping.main.body.getD i (.Pass ⟨0, 0, 0, 0⟩)
def C_HALF : D := .tup [.int 1, .int 2]
abbrev st_ratio : Stmt := topS 2
theorem sc_ratio : FnScope ["n", "d", "common"] ["n", "d"] (defScope st_ratio) := ⟨rfl, rfl, rfl, by decide +kernel, rfl, by decide +kernel, by decide +kernel⟩
noncomputable def S_ratio : SM := (sSeq (sIf (cVal (e2 ltD (eV 1) (eC (.int 0)))) (sSeq (sAsg (e1 negD (eV 0)) (gN 0)) (sAsg (e1 negD (eV 1)) (gN 1))) sNop) (sSeq (sIf (cVal (e2 eqD (eV 1) (eC (.int 1)))) (sRet (eArgs mkTup (aCons (eV 0) (aCons (eC (.int 1)) aNil)))) sNop) (sSeq (sAsg (eArgs gcdL (aCons (eV 0) (aCons (eV 1) aNil))) (gN 2)) (sSeq (sIf (cVal (e2 eqD (eV 2) (eC (.int 1)))) (sRet (eArgs mkTup (aCons (eV 0) (aCons (eV 1) aNil)))) sNop) (sRet (eArgs mkTup (aCons (e2 fdivD (eV 0) (eV 2)) (aCons (e2 fdivD (eV 1) (eV 2)) aNil))))))))
noncomputable def F_ratio : Fn := fnN 3 2 S_ratio
abbrev st_plus : Stmt := topS 3
theorem sc_plus : FnScope ["a", "b"] ["a", "b"] (defScope st_plus) := ⟨rfl, rfl, rfl, by decide +kernel, rfl, by decide +kernel, by decide +kernel⟩
noncomputable def S_plus : SM := (sSeq (sIf (cAnd (cVal (e2 eqD (e2 ixD (eV 0) (eC (.int 1))) (eC (.int 1)))) (cVal (e2 eqD (e2 ixD (eV 1) (eC (.int 1))) (eC (.int 1))))) (sRet (eArgs mkTup (aCons (e2 addD (e2 ixD (eV 0) (eC (.int 0))) (e2 ixD (eV 1) (eC (.int 0)))) (aCons (eC (.int 1)) aNil)))) sNop) (sRet (eArgs F_ratio (aCons (e2 addD (e2 mulD (e2 ixD (eV 0) (eC (.int 0))) (e2 ixD (eV 1) (eC (.int 1)))) (e2 mulD (e2 ixD (eV 1) (eC (.int 0))) (e2 ixD (eV 0) (eC (.int 1))))) (aCons (e2 mulD (e2 ixD (eV 0) (eC (.int 1))) (e2 ixD (eV 1) (eC (.int 1)))) aNil)))))
noncomputable def F_plus : Fn := fnN 2 2 S_plus
abbrev st_floor_of : Stmt := topS 4
theorem sc_floor_of : FnScope ["a"] ["a"] (defScope st_floor_of) := ⟨rfl, rfl, rfl, by decide +kernel, rfl, by decide +kernel, by decide +kernel⟩
noncomputable def S_floor_of : SM := (sRet (e2 fdivD (e2 ixD (eV 0) (eC (.int 0))) (e2 ixD (eV 0) (eC (.int 1)))))
noncomputable def F_floor_of : Fn := fnN 1 1 S_floor_of
abbrev st_nearest : Stmt := topS 7
theorem sc_nearest : FnScope ["value"] ["value"] (defScope st_nearest) := ⟨rfl, rfl, rfl, by decide +kernel, rfl, by decide +kernel, by decide +kernel⟩
noncomputable def S_nearest : SM := (sRet (eArgs mkTup (aCons (eArgs F_floor_of (aCons (eArgs F_plus (aCons (eV 0) (aCons (eC C_HALF) aNil))) aNil)) (aCons (eC (.int 1)) aNil))))
noncomputable def F_nearest : Fn := fnN 1 1 S_nearest
abbrev st_snapped : Stmt := topS 8
theorem sc_snapped : FnScope ["layout", "told", "place", "edge"] ["layout"] (defScope st_snapped) := ⟨rfl, rfl, rfl, by decide +kernel, rfl, by decide +kernel, by decide +kernel⟩
noncomputable def S_snapped : SM := (sSeq (sAsg (eArgs mkLst aNil) (gN 1)) (sSeq (sFor (fun ρ => M.thn ((eV 0) ρ) itOf) (gN 2) (sIf (cVal (e2 isD (eV 2) (eC .non))) (sDrop (eMt "list" appD (eV 1) (aCons (eC .non) aNil))) (sDrop (eMt "list" appD (eV 1) (aCons (eArgs tupleL (aCons (eLc (fun ρ => M.thn ((eV 2) ρ) itOf) (gN 3) cYes (eArgs F_nearest (aCons (eV 3) aNil)) [3]) aNil)) aNil))))) (sRet (eArgs tupleL (aCons (eV 1) aNil)))))
noncomputable def F_snapped : Fn := fnN 4 1 S_snapped
abbrev st_law_begin : Stmt := topS 10
theorem sc_law_begin : FnScope ["script", "cell"] ["script"] (defScope st_law_begin) := ⟨rfl, rfl, rfl, by decide +kernel, rfl, by decide +kernel, by decide +kernel⟩
noncomputable def S_law_begin : SM := (sRet (eArgs mkLst (aCons (eLc (fun ρ => M.thn ((eV 0) ρ) itOf) (gN 1) cYes (eArgs intL (aCons (eV 1) aNil)) [1]) (aCons (eC (.int 0)) (aCons (eC (.int 0)) (aCons (eC (.int 7)) (aCons (eC (.int 3)) aNil)))))))
noncomputable def F_law_begin : Fn := fnN 2 1 S_law_begin
abbrev st_law_draw : Stmt := topS 11
theorem sc_law_draw : FnScope ["d", "many", "found", "size", "cell"] ["d", "many"] (defScope st_law_draw) := ⟨rfl, rfl, rfl, by decide +kernel, rfl, by decide +kernel, by decide +kernel⟩
noncomputable def S_law_draw : SM := (sSeq (sIf (cVal (e2 gtD (e2 ixD (eV 0) (eC (.int 2))) (eC (.int 0)))) (sSeq (sAsg (e2 ixD (eV 0) (eC (.int 2))) (gN 2)) (sSeq (sPut (e2 fdivD (eV 2) (eV 1)) (eV 0) (eC (.int 2))) (sRet (e2 modD (eArgs intL (aCons (eV 2) aNil)) (eV 1))))) sNop) (sSeq (sAsg (eC (.int 0)) (gN 3)) (sSeq (sIf (cVal (e2 ltD (e2 ixD (eV 0) (eC (.int 1))) (eArgs lenL (aCons (e2 ixD (eV 0) (eC (.int 0))) aNil)))) (sSeq (sAsg (e2 ixD (e2 ixD (eV 0) (eC (.int 0))) (e2 ixD (eV 0) (eC (.int 1)))) (gN 4)) (sAsg (e2 addD (e2 mulD (eC (.int 2)) (eArgs absL (aCons (eV 4) aNil))) (eArgs intL (aCons (e2 ltD (eV 4) (eC (.int 0))) aNil))) (gN 3))) sNop) (sSeq (sAugPut addD (eV 0) (eC (.int 1)) (eC (.int 1))) (sSeq (sIf (cVal (e2 geD (eV 3) (e2 mulD (eC (.int 2)) (e2 powD (eC (.int 10)) (eC (.int 18)))))) (sSeq (sAsg (e2 modD (eArgs intL (aCons (e2 fdivD (eV 3) (eC (.int 2))) aNil)) (e2 shlD (eC (.int 1)) (eC (.int 6000)))) (gN 2)) (sSeq (sPut (e2 fdivD (eV 2) (eV 1)) (eV 0) (eC (.int 2))) (sRet (e2 modD (eArgs intL (aCons (eV 2) aNil)) (eV 1))))) sNop) (sSeq (sPut (e2 modD (eArgs intL (aCons (e2 addD (e2 addD (e2 addD (e2 mulD (e2 ixD (eV 0) (eC (.int 3))) (eC (.int 48271))) (e2 mulD (e2 modD (eArgs intL (aCons (eV 3) aNil)) (eC (.int 2147483629))) (eC (.int 16807)))) (e2 mulD (e2 ixD (eV 0) (eC (.int 1))) (eC (.int 69621)))) (eC (.int 11))) aNil)) (eC (.int 2147483647))) (eV 0) (eC (.int 3))) (sRet (e2 modD (eArgs intL (aCons (e2 fdivD (e2 ixD (eV 0) (eC (.int 3))) (eC (.int 16))) aNil)) (eV 1)))))))))
noncomputable def F_law_draw : Fn := fnN 5 2 S_law_draw
abbrev st_law_pick : Stmt := topS 12
theorem sc_law_pick : FnScope ["d", "row"] ["d", "row"] (defScope st_law_pick) := ⟨rfl, rfl, rfl, by decide +kernel, rfl, by decide +kernel, by decide +kernel⟩
noncomputable def S_law_pick : SM := (sRet (e2 ixD (eV 1) (eArgs F_law_draw (aCons (eV 0) (aCons (eArgs lenL (aCons (eV 1) aNil)) aNil)))))
noncomputable def F_law_pick : Fn := fnN 2 2 S_law_pick
abbrev st_law_gcd : Stmt := topS 13
theorem sc_law_gcd : FnScope ["a", "b", "k"] ["a", "b"] (defScope st_law_gcd) := ⟨rfl, rfl, rfl, by decide +kernel, rfl, by decide +kernel, by decide +kernel⟩
noncomputable def S_law_gcd : SM := (sSeq (sAsg (eArgs absL (aCons (eV 0) aNil)) (gN 0)) (sSeq (sAsg (eArgs absL (aCons (eV 1) aNil)) (gN 1)) (sSeq (sFor (fun ρ => M.thn ((aCons (eC (.int 100000)) aNil) ρ) rng1) (gN 2) (sSeq (sIf (cVal (e2 eqD (eV 1) (eC (.int 0)))) sBrk sNop) (sPar 0 1 (aCons (eV 1) (aCons (e2 modD (eArgs intL (aCons (eV 0) aNil)) (eV 1)) aNil))))) (sRet (eV 0)))))
noncomputable def F_law_gcd : Fn := fnN 3 2 S_law_gcd
abbrev st_law_r : Stmt := topS 14
theorem sc_law_r : FnScope ["n", "d", "g"] ["n", "d"] (defScope st_law_r) := ⟨rfl, rfl, rfl, by decide +kernel, rfl, by decide +kernel, by decide +kernel⟩
noncomputable def S_law_r : SM := (sSeq (sIf (cVal (e2 ltD (eV 1) (eC (.int 0)))) (sSeq (sAsg (e1 negD (eV 0)) (gN 0)) (sAsg (e1 negD (eV 1)) (gN 1))) sNop) (sSeq (sAsg (eArgs F_law_gcd (aCons (eV 0) (aCons (eV 1) aNil))) (gN 2)) (sRet (eArgs mkTup (aCons (e2 fdivD (eV 0) (eV 2)) (aCons (e2 fdivD (eV 1) (eV 2)) aNil))))))
noncomputable def F_law_r : Fn := fnN 3 2 S_law_r
abbrev st_law_lt : Stmt := topS 15
theorem sc_law_lt : FnScope ["a", "b"] ["a", "b"] (defScope st_law_lt) := ⟨rfl, rfl, rfl, by decide +kernel, rfl, by decide +kernel, by decide +kernel⟩
noncomputable def S_law_lt : SM := (sRet (e2 ltD (e2 mulD (e2 ixD (eV 0) (eC (.int 0))) (e2 ixD (eV 1) (eC (.int 1)))) (e2 mulD (e2 ixD (eV 1) (eC (.int 0))) (e2 ixD (eV 0) (eC (.int 1))))))
noncomputable def F_law_lt : Fn := fnN 2 2 S_law_lt
abbrev st_law_is_int : Stmt := topS 16
theorem sc_law_is_int : FnScope ["thing"] ["thing"] (defScope st_law_is_int) := ⟨rfl, rfl, rfl, by decide +kernel, rfl, by decide +kernel, by decide +kernel⟩
noncomputable def S_law_is_int : SM := (sRet (eAnd (eArgs isiL (aCons (eV 0) (aCons (eC (.ty "int")) aNil))) (eNot (eArgs isiL (aCons (eV 0) (aCons (eC (.ty "bool")) aNil))))))
noncomputable def F_law_is_int : Fn := fnN 1 1 S_law_is_int
abbrev st_law_is_r : Stmt := topS 17
theorem sc_law_is_r : FnScope ["thing"] ["thing"] (defScope st_law_is_r) := ⟨rfl, rfl, rfl, by decide +kernel, rfl, by decide +kernel, by decide +kernel⟩
noncomputable def S_law_is_r : SM := (sSeq (sIf (cOr (cNot (cVal (eArgs isiL (aCons (eV 0) (aCons (eC (.ty "tuple")) aNil))))) (cVal (e2 neD (eArgs lenL (aCons (eV 0) aNil)) (eC (.int 2))))) (sRet (eC (.bl false))) sNop) (sSeq (sIf (cOr (cNot (cVal (eArgs F_law_is_int (aCons (e2 ixD (eV 0) (eC (.int 0))) aNil)))) (cOr (cNot (cVal (eArgs F_law_is_int (aCons (e2 ixD (eV 0) (eC (.int 1))) aNil)))) (cVal (e2 ltD (e2 ixD (eV 0) (eC (.int 1))) (eC (.int 1)))))) (sRet (eC (.bl false))) sNop) (sRet (e2 eqD (eArgs F_law_gcd (aCons (e2 ixD (eV 0) (eC (.int 0))) (aCons (e2 ixD (eV 0) (eC (.int 1))) aNil))) (eC (.int 1))))))
noncomputable def F_law_is_r : Fn := fnN 1 1 S_law_is_r
abbrev st_law_edge : Stmt := topS 18
theorem sc_law_edge : FnScope ["d", "edges", "way", "sign", "half"] ["d", "edges"] (defScope st_law_edge) := ⟨rfl, rfl, rfl, by decide +kernel, rfl, by decide +kernel, by decide +kernel⟩
noncomputable def S_law_edge : SM := (sSeq (sAsg (eArgs F_law_draw (aCons (eV 0) (aCons (eC (.int 8)) aNil))) (gN 2)) (sSeq (sAsg (e2 subD (eC (.int 1)) (e2 mulD (eC (.int 2)) (eArgs F_law_draw (aCons (eV 0) (aCons (eC (.int 2)) aNil))))) (gN 3)) (sSeq (sIf (cAnd (cVal (e2 eqD (eV 2) (eC (.int 0)))) (cVal (e2 gtD (eArgs lenL (aCons (eV 1) aNil)) (eC (.int 0))))) (sRet (eArgs F_law_pick (aCons (eV 0) (aCons (eV 1) aNil)))) sNop) (sSeq (sIf (cVal (e2 eqD (eV 2) (eC (.int 1)))) (sRet (eArgs F_law_r (aCons (e2 mulD (eV 3) (e2 addD (e2 mulD (eC (.int 2)) (eArgs F_law_draw (aCons (eV 0) (aCons (eC (.int 40)) aNil)))) (eC (.int 1)))) (aCons (eC (.int 2)) aNil)))) sNop) (sSeq (sIf (cVal (e2 eqD (eV 2) (eC (.int 2)))) (sRet (eArgs mkTup (aCons (e2 mulD (eV 3) (eArgs F_law_draw (aCons (eV 0) (aCons (eC (.int 40)) aNil)))) (aCons (eC (.int 1)) aNil)))) sNop) (sSeq (sIf (cVal (e2 eqD (eV 2) (eC (.int 3)))) (sSeq (sAsg (e2 addD (eC (.int 1)) (eArgs F_law_draw (aCons (eV 0) (aCons (eC (.int 1000000)) aNil)))) (gN 4)) (sRet (eArgs F_law_r (aCons (e2 subD (e2 addD (e2 mulD (e2 mulD (eV 3) (e2 addD (e2 mulD (eC (.int 2)) (eArgs F_law_draw (aCons (eV 0) (aCons (eC (.int 40)) aNil)))) (eC (.int 1)))) (eV 4)) (eArgs F_law_draw (aCons (eV 0) (aCons (eC (.int 3)) aNil)))) (eC (.int 1))) (aCons (e2 mulD (eC (.int 2)) (eV 4)) aNil))))) sNop) (sSeq (sIf (cVal (e2 eqD (eV 2) (eC (.int 4)))) (sRet (eArgs F_law_r (aCons (e2 addD (e2 mulD (e2 mulD (eV 3) (eArgs F_law_draw (aCons (eV 0) (aCons (e2 powD (eC (.int 10)) (eC (.int 9))) aNil)))) (e2 powD (eC (.int 10)) (eC (.int 12)))) (eArgs F_law_draw (aCons (eV 0) (aCons (e2 powD (eC (.int 10)) (eC (.int 9))) aNil)))) (aCons (e2 addD (eC (.int 1)) (eArgs F_law_draw (aCons (eV 0) (aCons (e2 powD (eC (.int 10)) (eC (.int 9))) aNil)))) aNil)))) sNop) (sRet (eArgs F_law_r (aCons (e2 mulD (eV 3) (eArgs F_law_draw (aCons (eV 0) (aCons (eC (.int 400)) aNil)))) (aCons (e2 addD (eC (.int 1)) (eArgs F_law_draw (aCons (eV 0) (aCons (eC (.int 12)) aNil)))) aNil)))))))))))
noncomputable def F_law_edge : Fn := fnN 5 2 S_law_edge
abbrev st_law_layout : Stmt := topS 19
theorem sc_law_layout : FnScope ["d", "edges", "told", "k", "place", "j", "edge"] ["d"] (defScope st_law_layout) := ⟨rfl, rfl, rfl, by decide +kernel, rfl, by decide +kernel, by decide +kernel⟩
noncomputable def S_law_layout : SM := (sSeq (sAsg (eArgs mkLst aNil) (gN 1)) (sSeq (sAsg (eArgs mkLst aNil) (gN 2)) (sSeq (sFor (fun ρ => M.thn ((aCons (e2 addD (eC (.int 1)) (eArgs F_law_draw (aCons (eV 0) (aCons (eC (.int 6)) aNil)))) aNil) ρ) rng1) (gN 3) (sSeq (sIf (cVal (e2 eqD (eArgs F_law_draw (aCons (eV 0) (aCons (eC (.int 5)) aNil))) (eC (.int 0)))) (sSeq (sDrop (eMt "list" appD (eV 2) (aCons (eC .non) aNil))) sCnt) sNop) (sSeq (sAsg (eArgs mkLst aNil) (gN 4)) (sSeq (sFor (fun ρ => M.thn ((aCons (eC (.int 4)) aNil) ρ) rng1) (gN 5) (sSeq (sAsg (eArgs F_law_edge (aCons (eV 0) (aCons (eV 1) aNil))) (gN 6)) (sSeq (sDrop (eMt "list" appD (eV 1) (aCons (eV 6) aNil))) (sDrop (eMt "list" appD (eV 4) (aCons (eV 6) aNil)))))) (sDrop (eMt "list" appD (eV 2) (aCons (eArgs tupleL (aCons (eV 4) aNil)) aNil))))))) (sRet (eArgs tupleL (aCons (eV 2) aNil))))))
noncomputable def F_law_layout : Fn := fnN 7 1 S_law_layout
abbrev st_law_near : Stmt := topS 20
theorem sc_law_near : FnScope ["edge", "moved", "twice"] ["edge", "moved"] (defScope st_law_near) := ⟨rfl, rfl, rfl, by decide +kernel, rfl, by decide +kernel, by decide +kernel⟩
noncomputable def S_law_near : SM := (sSeq (sIf (cOr (cNot (cVal (eArgs F_law_is_r (aCons (eV 1) aNil)))) (cVal (e2 neD (e2 ixD (eV 1) (eC (.int 1))) (eC (.int 1))))) (sRet (eC (.bl false))) sNop) (sSeq (sAsg (e2 mulD (eC (.int 2)) (e2 subD (e2 mulD (e2 ixD (eV 1) (eC (.int 0))) (e2 ixD (eV 0) (eC (.int 1)))) (e2 ixD (eV 0) (eC (.int 0))))) (gN 2)) (sRet (eAnd (e2 ltD (e1 negD (e2 ixD (eV 0) (eC (.int 1)))) (eV 2)) (e2 leD (eV 2) (e2 ixD (eV 0) (eC (.int 1))))))))
noncomputable def F_law_near : Fn := fnN 3 2 S_law_near
abbrev st_law_pairs : Stmt := topS 21
theorem sc_law_pairs : FnScope ["layout", "told", "pairs", "place", "moved", "edge", "new"] ["layout", "told"] (defScope st_law_pairs) := ⟨rfl, rfl, rfl, by decide +kernel, rfl, by decide +kernel, by decide +kernel⟩
noncomputable def S_law_pairs : SM := (sSeq (sIf (cOr (cNot (cVal (eArgs isiL (aCons (eV 1) (aCons (eC (.ty "tuple")) aNil))))) (cVal (e2 neD (eArgs lenL (aCons (eV 1) aNil)) (eArgs lenL (aCons (eV 0) aNil))))) (sRet (eC .non)) sNop) (sSeq (sAsg (eArgs mkLst aNil) (gN 2)) (sSeq (sFor (fun ρ => M.thn ((aCons (eV 0) (aCons (eV 1) aNil)) ρ) zipOf) (gT [(gN 3), (gN 4)]) (sSeq (sIf (cVal (e2 isD (eV 3) (eC .non))) (sSeq (sIf (cVal (e2 isntD (eV 4) (eC .non))) (sRet (eC .non)) sNop) sCnt) sNop) (sSeq (sIf (cOr (cNot (cVal (eArgs isiL (aCons (eV 4) (aCons (eC (.ty "tuple")) aNil))))) (cVal (e2 neD (eArgs lenL (aCons (eV 4) aNil)) (eC (.int 4))))) (sRet (eC .non)) sNop) (sFor (fun ρ => M.thn ((aCons (eV 3) (aCons (eV 4) aNil)) ρ) zipOf) (gT [(gN 5), (gN 6)]) (sDrop (eMt "list" appD (eV 2) (aCons (eArgs mkTup (aCons (eV 5) (aCons (eV 6) aNil))) aNil))))))) (sRet (eV 2)))))
noncomputable def F_law_pairs : Fn := fnN 7 2 S_law_pairs
abbrev st_law_right : Stmt := topS 22
theorem sc_law_right : FnScope ["layout", "told", "pairs", "edge", "new", "other", "also"] ["layout", "told"] (defScope st_law_right) := ⟨rfl, rfl, rfl, by decide +kernel, rfl, by decide +kernel, by decide +kernel⟩
noncomputable def S_law_right : SM := (sSeq (sAsg (eArgs F_law_pairs (aCons (eV 0) (aCons (eV 1) aNil))) (gN 2)) (sSeq (sIf (cVal (e2 isD (eV 2) (eC .non))) (sRet (eC (.bl false))) sNop) (sSeq (sIf (cNot (cVal (eArgs allL (aCons (eLc (fun ρ => M.thn ((eV 2) ρ) itOf) (gT [(gN 3), (gN 4)]) cYes (eArgs F_law_near (aCons (eV 3) (aCons (eV 4) aNil))) [3, 4]) aNil)))) (sRet (eC (.bl false))) sNop) (sSeq (sFor (fun ρ => M.thn ((eV 2) ρ) itOf) (gT [(gN 3), (gN 4)]) (sFor (fun ρ => M.thn ((eV 2) ρ) itOf) (gT [(gN 5), (gN 6)]) (sSeq (sIf (cAnd (cVal (e2 eqD (eV 3) (eV 5))) (cVal (e2 neD (eV 4) (eV 6)))) (sRet (eC (.bl false))) sNop) (sIf (cAnd (cVal (eArgs F_law_lt (aCons (eV 3) (aCons (eV 5) aNil)))) (cVal (e2 gtD (e2 ixD (eV 4) (eC (.int 0))) (e2 ixD (eV 6) (eC (.int 0)))))) (sRet (eC (.bl false))) sNop)))) (sRet (eC (.bl true)))))))
noncomputable def F_law_right : Fn := fnN 7 2 S_law_right
abbrev st_law : Stmt := topS 23
theorem sc_law : FnScope ["script", "d", "layout", "told", "again", "turned", "back", "k"] ["script"] (defScope st_law) := ⟨rfl, rfl, rfl, by decide +kernel, rfl, by decide +kernel, by decide +kernel⟩
noncomputable def S_law : SM := (sSeq (sAsg (eArgs F_law_begin (aCons (eV 0) aNil)) (gN 1)) (sSeq (sAsg (eArgs F_law_layout (aCons (eV 1) aNil)) (gN 2)) (sSeq (sAsg (eArgs F_snapped (aCons (eV 2) aNil)) (gN 3)) (sSeq (sIf (cNot (cVal (eArgs F_law_right (aCons (eV 2) (aCons (eV 3) aNil))))) (sRet (eC (.bl false))) sNop) (sSeq (sAsg (eArgs F_snapped (aCons (eV 3) aNil)) (gN 4)) (sSeq (sIf (cOr (cNot (cVal (eArgs F_law_right (aCons (eV 3) (aCons (eV 4) aNil))))) (cVal (e2 neD (eV 4) (eV 3)))) (sRet (eC (.bl false))) sNop) (sSeq (sAsg (eArgs listL (aCons (eV 2) aNil)) (gN 5)) (sSeq (sDrop (eMt0 "list" (fun x => revD x []) (eV 5))) (sSeq (sAsg (eArgs F_snapped (aCons (eArgs tupleL (aCons (eV 5) aNil)) aNil)) (gN 6)) (sSeq (sIf (cNot (cVal (eArgs F_law_right (aCons (eArgs tupleL (aCons (eV 5) aNil)) (aCons (eV 6) aNil))))) (sRet (eC (.bl false))) sNop) (sSeq (sFor (fun ρ => M.thn ((aCons (eArgs lenL (aCons (eV 3) aNil)) aNil) ρ) rng1) (gN 7) (sIf (cVal (e2 neD (e2 ixD (eV 6) (eV 7)) (e2 ixD (eV 3) (e2 subD (e2 subD (eArgs lenL (aCons (eV 3) aNil)) (eC (.int 1))) (eV 7))))) (sRet (eC (.bl false))) sNop)) (sRet (e2 eqD (eArgs F_snapped (aCons (eV 2) aNil)) (eV 3))))))))))))))
noncomputable def F_law : Fn := fnN 8 1 S_law
/-- what the top has written -/
structure Txt (K : PySem.W.Frag) (mg : Str → Option Value) where
  a_ratio : Addr
  fd_ratio : FuncData
  F_ratio : Fun K "ratio" "ratio" st_ratio a_ratio fd_ratio
  g_ratio : mg "ratio" = some (.ref a_ratio)
  b_ratio : Binds K fd_ratio ["n", "d"] []
  a_plus : Addr
  fd_plus : FuncData
  F_plus : Fun K "plus" "plus" st_plus a_plus fd_plus
  g_plus : mg "plus" = some (.ref a_plus)
  b_plus : Binds K fd_plus ["a", "b"] []
  a_floor_of : Addr
  fd_floor_of : FuncData
  F_floor_of : Fun K "floor_of" "floor_of" st_floor_of a_floor_of fd_floor_of
  g_floor_of : mg "floor_of" = some (.ref a_floor_of)
  b_floor_of : Binds K fd_floor_of ["a"] []
  a_nearest : Addr
  fd_nearest : FuncData
  F_nearest : Fun K "nearest" "nearest" st_nearest a_nearest fd_nearest
  g_nearest : mg "nearest" = some (.ref a_nearest)
  b_nearest : Binds K fd_nearest ["value"] []
  a_snapped : Addr
  fd_snapped : FuncData
  F_snapped : Fun K "snapped" "snapped" st_snapped a_snapped fd_snapped
  g_snapped : mg "snapped" = some (.ref a_snapped)
  b_snapped : Binds K fd_snapped ["layout"] []
  a_law_begin : Addr
  fd_law_begin : FuncData
  F_law_begin : Fun K "_law_begin" "_law_begin" st_law_begin a_law_begin fd_law_begin
  g_law_begin : mg "_law_begin" = some (.ref a_law_begin)
  b_law_begin : Binds K fd_law_begin ["script"] []
  a_law_draw : Addr
  fd_law_draw : FuncData
  F_law_draw : Fun K "_law_draw" "_law_draw" st_law_draw a_law_draw fd_law_draw
  g_law_draw : mg "_law_draw" = some (.ref a_law_draw)
  b_law_draw : Binds K fd_law_draw ["d", "many"] []
  a_law_pick : Addr
  fd_law_pick : FuncData
  F_law_pick : Fun K "_law_pick" "_law_pick" st_law_pick a_law_pick fd_law_pick
  g_law_pick : mg "_law_pick" = some (.ref a_law_pick)
  b_law_pick : Binds K fd_law_pick ["d", "row"] []
  a_law_gcd : Addr
  fd_law_gcd : FuncData
  F_law_gcd : Fun K "_law_gcd" "_law_gcd" st_law_gcd a_law_gcd fd_law_gcd
  g_law_gcd : mg "_law_gcd" = some (.ref a_law_gcd)
  b_law_gcd : Binds K fd_law_gcd ["a", "b"] []
  a_law_r : Addr
  fd_law_r : FuncData
  F_law_r : Fun K "_law_r" "_law_r" st_law_r a_law_r fd_law_r
  g_law_r : mg "_law_r" = some (.ref a_law_r)
  b_law_r : Binds K fd_law_r ["n", "d"] []
  a_law_lt : Addr
  fd_law_lt : FuncData
  F_law_lt : Fun K "_law_lt" "_law_lt" st_law_lt a_law_lt fd_law_lt
  g_law_lt : mg "_law_lt" = some (.ref a_law_lt)
  b_law_lt : Binds K fd_law_lt ["a", "b"] []
  a_law_is_int : Addr
  fd_law_is_int : FuncData
  F_law_is_int : Fun K "_law_is_int" "_law_is_int" st_law_is_int a_law_is_int fd_law_is_int
  g_law_is_int : mg "_law_is_int" = some (.ref a_law_is_int)
  b_law_is_int : Binds K fd_law_is_int ["thing"] []
  a_law_is_r : Addr
  fd_law_is_r : FuncData
  F_law_is_r : Fun K "_law_is_r" "_law_is_r" st_law_is_r a_law_is_r fd_law_is_r
  g_law_is_r : mg "_law_is_r" = some (.ref a_law_is_r)
  b_law_is_r : Binds K fd_law_is_r ["thing"] []
  a_law_edge : Addr
  fd_law_edge : FuncData
  F_law_edge : Fun K "_law_edge" "_law_edge" st_law_edge a_law_edge fd_law_edge
  g_law_edge : mg "_law_edge" = some (.ref a_law_edge)
  b_law_edge : Binds K fd_law_edge ["d", "edges"] []
  a_law_layout : Addr
  fd_law_layout : FuncData
  F_law_layout : Fun K "_law_layout" "_law_layout" st_law_layout a_law_layout fd_law_layout
  g_law_layout : mg "_law_layout" = some (.ref a_law_layout)
  b_law_layout : Binds K fd_law_layout ["d"] []
  a_law_near : Addr
  fd_law_near : FuncData
  F_law_near : Fun K "_law_near" "_law_near" st_law_near a_law_near fd_law_near
  g_law_near : mg "_law_near" = some (.ref a_law_near)
  b_law_near : Binds K fd_law_near ["edge", "moved"] []
  a_law_pairs : Addr
  fd_law_pairs : FuncData
  F_law_pairs : Fun K "_law_pairs" "_law_pairs" st_law_pairs a_law_pairs fd_law_pairs
  g_law_pairs : mg "_law_pairs" = some (.ref a_law_pairs)
  b_law_pairs : Binds K fd_law_pairs ["layout", "told"] []
  a_law_right : Addr
  fd_law_right : FuncData
  F_law_right : Fun K "_law_right" "_law_right" st_law_right a_law_right fd_law_right
  g_law_right : mg "_law_right" = some (.ref a_law_right)
  b_law_right : Binds K fd_law_right ["layout", "told"] []
  a_law : Addr
  fd_law : FuncData
  F_law : Fun K "law" "law" st_law a_law fd_law
  g_law : mg "law" = some (.ref a_law)
  b_law : Binds K fd_law ["script"] []
  a_HALF : Addr
  g_HALF : mg "HALF" = some (.ref a_HALF)
  r_HALF : ∀ H m, Rep K H m C_HALF (.ref a_HALF)
  g_gcd : mg "gcd" = some (.builtin "math.gcd")
  z_abs : mg "abs" = none
  z_all : mg "all" = none
  z_bool : mg "bool" = none
  z_int : mg "int" = none
  z_isinstance : mg "isinstance" = none
  z_len : mg "len" = none
  z_list : mg "list" = none
  z_range : mg "range" = none
  z_tuple : mg "tuple" = none
  z_zip : mg "zip" = none
section
variable {P : Program} {w : World} {K : PySem.W.Frag} {mg : Str → Option Value} {base : Heap}
theorem ok_ratio (T : Txt K mg) : FnOk P w K mg base CX0 1 T.a_ratio T.fd_ratio ["n", "d"] (spN K F_ratio) := by
  refine fn_ok (k := 0) (N := ["n", "d", "common"]) (ps := ["n", "d"]) (ψ := S_ratio) T.F_ratio sc_ratio (fun cdv A outer s H E hr => ?_)
  have hu := hr.units
  exact ms_cons (ms_if (mt_cmp op_lt s_cmp (me_var 1) me_int (nomark _)) (ms_cons (ms_set (i := 0) sc_ratio.nd rfl (by first | exact Or.inl rfl | exact Or.inr rfl) (me_un un_neg s_neg (me_var 0))) (ms_one (ms_set (i := 1) sc_ratio.nd rfl (by first | exact Or.inl rfl | exact Or.inr rfl) (me_un un_neg s_neg (me_var 1))))) ms_nil) (ms_cons (ms_if (mt_cmp (op_eqD hr.units) s_eq (me_var 1) me_int (nomark _)) (ms_one (ms_ret (me_tup (ma_cons (me_var 0) (ma_cons me_int ma_nil))))) ms_nil) (ms_cons (ms_set (i := 2) sc_ratio.nd rfl (by first | exact Or.inl rfl | exact Or.inr rfl) (me_callBfun cr_gcd s_gcd (by rfl) T.g_gcd (ma_cons (me_var 0) (ma_cons (me_var 1) ma_nil)))) (ms_cons (ms_if (mt_cmp (op_eqD hr.units) s_eq (me_var 2) me_int (nomark _)) (ms_one (ms_ret (me_tup (ma_cons (me_var 0) (ma_cons (me_var 1) ma_nil))))) ms_nil) (ms_one (ms_ret (me_tup (ma_cons (me_op op_fdivW s_fdiv (me_var 0) (me_var 2)) (ma_cons (me_op op_fdivW s_fdiv (me_var 1) (me_var 2)) ma_nil))))))))
theorem ok_plus (T : Txt K mg) : FnOk P w K mg base CX0 2 T.a_plus T.fd_plus ["a", "b"] (spN K F_plus) := by
  have O_ratio : FnOk P w K mg base CX0 1 T.a_ratio T.fd_ratio _ (spN K F_ratio) := ok_ratio T
  refine fn_ok (k := 1) (N := ["a", "b"]) (ps := ["a", "b"]) (ψ := S_plus) T.F_plus sc_plus (fun cdv A outer s H E hr => ?_)
  have hu := hr.units
  exact ms_cons (ms_if (PW.pt (mw_and (mt_cmp (op_eqD hr.units) s_eq (me_ix (ix_list.or ix_tup) s_ix (me_var 0) me_int (fun _ _ => rfl)) me_int (nomark _)) (mw_and1 (mt_cmp (op_eqD hr.units) s_eq (me_ix (ix_list.or ix_tup) s_ix (me_var 1) me_int (fun _ _ => rfl)) me_int (nomark _))))) (ms_one (ms_ret (me_tup (ma_cons (me_op op_add s_add (me_ix (ix_list.or ix_tup) s_ix (me_var 0) me_int (fun _ _ => rfl)) (me_ix (ix_list.or ix_tup) s_ix (me_var 1) me_int (fun _ _ => rfl))) (ma_cons me_int ma_nil))))) ms_nil) (ms_one (ms_ret (me_call O_ratio (fnN_noex _ _ _) (hr.mono (by decide)) T.g_ratio T.F_ratio.kp T.b_ratio (ma_cons (me_op op_add s_add (me_op op_mulA s_mul (me_ix (ix_list.or ix_tup) s_ix (me_var 0) me_int (fun _ _ => rfl)) (me_ix (ix_list.or ix_tup) s_ix (me_var 1) me_int (fun _ _ => rfl))) (me_op op_mulA s_mul (me_ix (ix_list.or ix_tup) s_ix (me_var 1) me_int (fun _ _ => rfl)) (me_ix (ix_list.or ix_tup) s_ix (me_var 0) me_int (fun _ _ => rfl)))) (ma_cons (me_op op_mulA s_mul (me_ix (ix_list.or ix_tup) s_ix (me_var 0) me_int (fun _ _ => rfl)) (me_ix (ix_list.or ix_tup) s_ix (me_var 1) me_int (fun _ _ => rfl))) ma_nil)))))
theorem ok_floor_of (T : Txt K mg) : FnOk P w K mg base CX0 1 T.a_floor_of T.fd_floor_of ["a"] (spN K F_floor_of) := by
  refine fn_ok (k := 0) (N := ["a"]) (ps := ["a"]) (ψ := S_floor_of) T.F_floor_of sc_floor_of (fun cdv A outer s H E hr => ?_)
  have hu := hr.units
  exact ms_one (ms_ret (me_op op_fdivW s_fdiv (me_ix (ix_list.or ix_tup) s_ix (me_var 0) me_int (fun _ _ => rfl)) (me_ix (ix_list.or ix_tup) s_ix (me_var 0) me_int (fun _ _ => rfl))))
theorem ok_nearest (T : Txt K mg) : FnOk P w K mg base CX0 3 T.a_nearest T.fd_nearest ["value"] (spN K F_nearest) := by
  have O_floor_of : FnOk P w K mg base CX0 1 T.a_floor_of T.fd_floor_of _ (spN K F_floor_of) := ok_floor_of T
  have O_plus : FnOk P w K mg base CX0 2 T.a_plus T.fd_plus _ (spN K F_plus) := ok_plus T
  refine fn_ok (k := 2) (N := ["value"]) (ps := ["value"]) (ψ := S_nearest) T.F_nearest sc_nearest (fun cdv A outer s H E hr => ?_)
  have hu := hr.units
  exact ms_one (ms_ret (me_tup (ma_cons (me_call O_floor_of (fnN_noex _ _ _) (hr.mono (by decide)) T.g_floor_of T.F_floor_of.kp T.b_floor_of (ma_cons (me_call O_plus (fnN_noex _ _ _) (hr.mono (by decide)) T.g_plus T.F_plus.kp T.b_plus (ma_cons (me_var 0) (ma_cons (me_c (pe_glob (v := .ref T.a_HALF) (by rfl) T.g_HALF rfl) (fun _ _ => T.r_HALF _ _)) ma_nil))) ma_nil)) (ma_cons me_int ma_nil))))
theorem ok_snapped (T : Txt K mg) : FnOk P w K mg base CX0 4 T.a_snapped T.fd_snapped ["layout"] (spN K F_snapped) := by
  have O_nearest : FnOk P w K mg base CX0 3 T.a_nearest T.fd_nearest _ (spN K F_nearest) := ok_nearest T
  refine fn_ok (k := 3) (N := ["layout", "told", "place", "edge"]) (ps := ["layout"]) (ψ := S_snapped) T.F_snapped sc_snapped (fun cdv A outer s H E hr => ?_)
  have hu := hr.units
  exact ms_cons (ms_set (i := 1) sc_snapped.nd rfl (by first | exact Or.inl rfl | exact Or.inr rfl) (me_lst ma_nil)) (ms_cons (ms_for PassesOwn.never rfl (mi_seq (me_var 0)) (pg_name (i := 2) sc_snapped.nd rfl (by first | exact Or.inl rfl | exact Or.inr rfl)) tg_name (ms_one (ms_if (mt_cmp op_isN s_is (me_var 2) me_non (nomark _)) (ms_one (ms_expr (me_mt PySem.F.plainAttrs_list PySem.F.slot_list_append PySem.F.type_list_append mt_append s_append (me_var 1) (ma_cons me_non ma_nil)))) (ms_one (ms_expr (me_mt PySem.F.plainAttrs_list PySem.F.slot_list_append PySem.F.type_list_append mt_append s_append (me_var 1) (ma_cons (me_callTy call_tuple_of s_tuple (by rfl) T.z_tuple (by decide +kernel) (ma_cons (me_lc (own := [("edge", 3)]) rfl sc_snapped.nd (mi_seq (me_var 2)) (blkOk_by (N := ["layout", "told", "place", "edge"]) (sc := defScope st_snapped) (by decide +kernel)) (fun _ _ _ _ _ => (pg_name (i := 3) sc_snapped.nd rfl (by first | exact Or.inl rfl | exact Or.inr rfl))) tg_name (by decide) (fun _ _ _ _ _ => mts_nil) (fun _ _ _ _ _ => (me_call O_nearest (fnN_noex _ _ _) (hr.mono (by decide)) T.g_nearest T.F_nearest.kp T.b_nearest (ma_cons (me_var 3) ma_nil)))) ma_nil)) ma_nil))))))) (ms_one (ms_ret (me_callTy call_tuple_of s_tuple (by rfl) T.z_tuple (by decide +kernel) (ma_cons (me_var 1) ma_nil)))))
theorem ok_law_begin (T : Txt K mg) : FnOk P w K mg base CX0 1 T.a_law_begin T.fd_law_begin ["script"] (spN K F_law_begin) := by
  refine fn_ok (k := 0) (N := ["script", "cell"]) (ps := ["script"]) (ψ := S_law_begin) T.F_law_begin sc_law_begin (fun cdv A outer s H E hr => ?_)
  have hu := hr.units
  exact ms_one (ms_ret (me_lst (ma_cons (me_lc (own := [("cell", 1)]) rfl sc_law_begin.nd (mi_seq (me_var 0)) (blkOk_by (N := ["script", "cell"]) (sc := defScope st_law_begin) (by decide +kernel)) (fun _ _ _ _ _ => (pg_name (i := 1) sc_law_begin.nd rfl (by first | exact Or.inl rfl | exact Or.inr rfl))) tg_name (by decide) (fun _ _ _ _ _ => mts_nil) (fun _ _ _ _ _ => (me_callTy call_int1 s_int (by rfl) T.z_int (by decide +kernel) (ma_cons (me_var 1) ma_nil)))) (ma_cons me_int (ma_cons me_int (ma_cons me_int (ma_cons me_int ma_nil)))))))
theorem ok_law_draw (T : Txt K mg) : FnOk P w K mg base CX0 1 T.a_law_draw T.fd_law_draw ["d", "many"] (spN K F_law_draw) := by
  refine fn_ok (k := 0) (N := ["d", "many", "found", "size", "cell"]) (ps := ["d", "many"]) (ψ := S_law_draw) T.F_law_draw sc_law_draw (fun cdv A outer s H E hr => ?_)
  have hu := hr.units
  exact ms_cons (ms_if (mt_cmp op_gt s_cmp (me_ix (ix_list.or ix_tup) s_ix (me_var 0) me_int (fun _ _ => rfl)) me_int (nomark _)) (ms_cons (ms_set (i := 2) sc_law_draw.nd rfl (by first | exact Or.inl rfl | exact Or.inr rfl) (me_ix (ix_list.or ix_tup) s_ix (me_var 0) me_int (fun _ _ => rfl))) (ms_cons (ms_put (me_op op_fdivW s_fdiv (me_var 2) (me_var 1)) (me_var 0) me_int) (ms_one (ms_ret (me_op op_modN s_mod (me_callTy call_int1 s_int (by rfl) T.z_int (by decide +kernel) (ma_cons (me_var 2) ma_nil)) (me_var 1)))))) ms_nil) (ms_cons (ms_set (i := 3) sc_law_draw.nd rfl (by first | exact Or.inl rfl | exact Or.inr rfl) me_int) (ms_cons (ms_if (mt_cmp op_lt s_cmp (me_ix (ix_list.or ix_tup) s_ix (me_var 0) me_int (fun _ _ => rfl)) (me_callB call_len_seq s_len (by rfl) T.z_len PySem.boot_len (ma_cons (me_ix (ix_list.or ix_tup) s_ix (me_var 0) me_int (fun _ _ => rfl)) ma_nil)) (nomark _)) (ms_cons (ms_set (i := 4) sc_law_draw.nd rfl (by first | exact Or.inl rfl | exact Or.inr rfl) (me_ix (ix_list.or ix_tup) s_ix (me_ix (ix_list.or ix_tup) s_ix (me_var 0) me_int (fun _ _ => rfl)) (me_ix (ix_list.or ix_tup) s_ix (me_var 0) me_int (fun _ _ => rfl)) (fun _ _ => rfl))) (ms_one (ms_set (i := 3) sc_law_draw.nd rfl (by first | exact Or.inl rfl | exact Or.inr rfl) (me_op op_add s_add (me_op op_mulA s_mul me_int (me_callB call_abs s_abs (by rfl) T.z_abs (by decide +kernel) (ma_cons (me_var 4) ma_nil))) (me_callTy call_int1 s_int (by rfl) T.z_int (by decide +kernel) (ma_cons (me_cmp op_lt s_cmp (me_var 4) me_int (nomark _)) ma_nil)))))) ms_nil) (ms_cons (ms_augPut (me_var 0) me_int me_int ip_add s_ipadd) (ms_cons (ms_if (mt_cmp op_ge s_cmp (me_var 3) (me_op op_mulA s_mul me_int (me_op op_pow s_pow me_int me_int)) (nomark _)) (ms_cons (ms_set (i := 2) sc_law_draw.nd rfl (by first | exact Or.inl rfl | exact Or.inr rfl) (me_op op_modN s_mod (me_callTy call_int1 s_int (by rfl) T.z_int (by decide +kernel) (ma_cons (me_op op_fdivW s_fdiv (me_var 3) me_int) ma_nil)) (me_op op_shl s_shl me_int me_int))) (ms_cons (ms_put (me_op op_fdivW s_fdiv (me_var 2) (me_var 1)) (me_var 0) me_int) (ms_one (ms_ret (me_op op_modN s_mod (me_callTy call_int1 s_int (by rfl) T.z_int (by decide +kernel) (ma_cons (me_var 2) ma_nil)) (me_var 1)))))) ms_nil) (ms_cons (ms_put (me_op op_modN s_mod (me_callTy call_int1 s_int (by rfl) T.z_int (by decide +kernel) (ma_cons (me_op op_add s_add (me_op op_add s_add (me_op op_add s_add (me_op op_mulA s_mul (me_ix (ix_list.or ix_tup) s_ix (me_var 0) me_int (fun _ _ => rfl)) me_int) (me_op op_mulA s_mul (me_op op_modN s_mod (me_callTy call_int1 s_int (by rfl) T.z_int (by decide +kernel) (ma_cons (me_var 3) ma_nil)) me_int) me_int)) (me_op op_mulA s_mul (me_ix (ix_list.or ix_tup) s_ix (me_var 0) me_int (fun _ _ => rfl)) me_int)) me_int) ma_nil)) me_int) (me_var 0) me_int) (ms_one (ms_ret (me_op op_modN s_mod (me_callTy call_int1 s_int (by rfl) T.z_int (by decide +kernel) (ma_cons (me_op op_fdivW s_fdiv (me_ix (ix_list.or ix_tup) s_ix (me_var 0) me_int (fun _ _ => rfl)) me_int) ma_nil)) (me_var 1)))))))))
theorem ok_law_pick (T : Txt K mg) : FnOk P w K mg base CX0 2 T.a_law_pick T.fd_law_pick ["d", "row"] (spN K F_law_pick) := by
  have O_law_draw : FnOk P w K mg base CX0 1 T.a_law_draw T.fd_law_draw _ (spN K F_law_draw) := ok_law_draw T
  refine fn_ok (k := 1) (N := ["d", "row"]) (ps := ["d", "row"]) (ψ := S_law_pick) T.F_law_pick sc_law_pick (fun cdv A outer s H E hr => ?_)
  have hu := hr.units
  exact ms_one (ms_ret (me_ix (ix_list.or ix_tup) s_ix (me_var 1) (me_call O_law_draw (fnN_noex _ _ _) (hr.mono (by decide)) T.g_law_draw T.F_law_draw.kp T.b_law_draw (ma_cons (me_var 0) (ma_cons (me_callB call_len_seq s_len (by rfl) T.z_len PySem.boot_len (ma_cons (me_var 1) ma_nil)) ma_nil))) (fun _ _ => rfl)))
theorem ok_law_gcd (T : Txt K mg) : FnOk P w K mg base CX0 1 T.a_law_gcd T.fd_law_gcd ["a", "b"] (spN K F_law_gcd) := by
  refine fn_ok (k := 0) (N := ["a", "b", "k"]) (ps := ["a", "b"]) (ψ := S_law_gcd) T.F_law_gcd sc_law_gcd (fun cdv A outer s H E hr => ?_)
  have hu := hr.units
  exact ms_cons (ms_set (i := 0) sc_law_gcd.nd rfl (by first | exact Or.inl rfl | exact Or.inr rfl) (me_callB call_abs s_abs (by rfl) T.z_abs (by decide +kernel) (ma_cons (me_var 0) ma_nil))) (ms_cons (ms_set (i := 1) sc_law_gcd.nd rfl (by first | exact Or.inl rfl | exact Or.inr rfl) (me_callB call_abs s_abs (by rfl) T.z_abs (by decide +kernel) (ma_cons (me_var 1) ma_nil))) (ms_cons (ms_for PassesOwn.never rfl (mi_range1 (by rfl) T.z_range (ma_cons me_int ma_nil)) (pg_name (i := 2) sc_law_gcd.nd rfl (by first | exact Or.inl rfl | exact Or.inr rfl)) tg_name (ms_cons (ms_if (mt_cmp (op_eqD hr.units) s_eq (me_var 1) me_int (nomark _)) (ms_one ms_brk) ms_nil) (ms_one (ms_par (i := 0) (j := 1) rfl sc_law_gcd.nd rfl rfl (by decide) (ma_cons (me_var 1) (ma_cons (me_op op_modN s_mod (me_callTy call_int1 s_int (by rfl) T.z_int (by decide +kernel) (ma_cons (me_var 0) ma_nil)) (me_var 1)) ma_nil)) (fun h => ps_par (i := 0) (j := 1) (by rfl) sc_law_gcd.nd rfl rfl (by decide) rfl rfl h (by rfl)))))) (ms_one (ms_ret (me_var 0)))))
theorem ok_law_r (T : Txt K mg) : FnOk P w K mg base CX0 2 T.a_law_r T.fd_law_r ["n", "d"] (spN K F_law_r) := by
  have O_law_gcd : FnOk P w K mg base CX0 1 T.a_law_gcd T.fd_law_gcd _ (spN K F_law_gcd) := ok_law_gcd T
  refine fn_ok (k := 1) (N := ["n", "d", "g"]) (ps := ["n", "d"]) (ψ := S_law_r) T.F_law_r sc_law_r (fun cdv A outer s H E hr => ?_)
  have hu := hr.units
  exact ms_cons (ms_if (mt_cmp op_lt s_cmp (me_var 1) me_int (nomark _)) (ms_cons (ms_set (i := 0) sc_law_r.nd rfl (by first | exact Or.inl rfl | exact Or.inr rfl) (me_un un_neg s_neg (me_var 0))) (ms_one (ms_set (i := 1) sc_law_r.nd rfl (by first | exact Or.inl rfl | exact Or.inr rfl) (me_un un_neg s_neg (me_var 1))))) ms_nil) (ms_cons (ms_set (i := 2) sc_law_r.nd rfl (by first | exact Or.inl rfl | exact Or.inr rfl) (me_call O_law_gcd (fnN_noex _ _ _) (hr.mono (by decide)) T.g_law_gcd T.F_law_gcd.kp T.b_law_gcd (ma_cons (me_var 0) (ma_cons (me_var 1) ma_nil)))) (ms_one (ms_ret (me_tup (ma_cons (me_op op_fdivW s_fdiv (me_var 0) (me_var 2)) (ma_cons (me_op op_fdivW s_fdiv (me_var 1) (me_var 2)) ma_nil))))))
theorem ok_law_lt (T : Txt K mg) : FnOk P w K mg base CX0 1 T.a_law_lt T.fd_law_lt ["a", "b"] (spN K F_law_lt) := by
  refine fn_ok (k := 0) (N := ["a", "b"]) (ps := ["a", "b"]) (ψ := S_law_lt) T.F_law_lt sc_law_lt (fun cdv A outer s H E hr => ?_)
  have hu := hr.units
  exact ms_one (ms_ret (me_cmp op_lt s_cmp (me_op op_mulA s_mul (me_ix (ix_list.or ix_tup) s_ix (me_var 0) me_int (fun _ _ => rfl)) (me_ix (ix_list.or ix_tup) s_ix (me_var 1) me_int (fun _ _ => rfl))) (me_op op_mulA s_mul (me_ix (ix_list.or ix_tup) s_ix (me_var 1) me_int (fun _ _ => rfl)) (me_ix (ix_list.or ix_tup) s_ix (me_var 0) me_int (fun _ _ => rfl))) (nomark _)))
theorem ok_law_is_int (T : Txt K mg) : FnOk P w K mg base CX0 1 T.a_law_is_int T.fd_law_is_int ["thing"] (spN K F_law_is_int) := by
  refine fn_ok (k := 0) (N := ["thing"]) (ps := ["thing"]) (ψ := S_law_is_int) T.F_law_is_int sc_law_is_int (fun cdv A outer s H E hr => ?_)
  have hu := hr.units
  exact ms_one (ms_ret (me_and (me_callB call_isi s_isi (by rfl) T.z_isinstance (by decide +kernel) (ma_cons (me_var 0) (ma_cons (me_c (pe_bltn (v := .ty "int") (u := .type "int") (by rfl) T.z_int (by decide +kernel) rfl) (fun _ _ => rfl)) ma_nil))) (me_one (me_not (me_callB call_isi s_isi (by rfl) T.z_isinstance (by decide +kernel) (ma_cons (me_var 0) (ma_cons (me_c (pe_bltn (v := .ty "bool") (u := .type "bool") (by rfl) T.z_bool (by decide +kernel) rfl) (fun _ _ => rfl)) ma_nil)))))))
theorem ok_law_is_r (T : Txt K mg) : FnOk P w K mg base CX0 2 T.a_law_is_r T.fd_law_is_r ["thing"] (spN K F_law_is_r) := by
  have O_law_gcd : FnOk P w K mg base CX0 1 T.a_law_gcd T.fd_law_gcd _ (spN K F_law_gcd) := ok_law_gcd T
  have O_law_is_int : FnOk P w K mg base CX0 1 T.a_law_is_int T.fd_law_is_int _ (spN K F_law_is_int) := ok_law_is_int T
  refine fn_ok (k := 1) (N := ["thing"]) (ps := ["thing"]) (ψ := S_law_is_r) T.F_law_is_r sc_law_is_r (fun cdv A outer s H E hr => ?_)
  have hu := hr.units
  exact ms_cons (ms_if (PW.pt (mw_or (mt_not (mt_val (me_callB call_isi s_isi (by rfl) T.z_isinstance (by decide +kernel) (ma_cons (me_var 0) (ma_cons (me_c (pe_bltn (v := .ty "tuple") (u := .type "tuple") (by rfl) T.z_tuple (by decide +kernel) rfl) (fun _ _ => rfl)) ma_nil))))) (mw_or1 (mt_cmp (op_neD hr.units) s_ne (me_callB call_len_seq s_len (by rfl) T.z_len PySem.boot_len (ma_cons (me_var 0) ma_nil)) me_int (nomark _))))) (ms_one (ms_ret me_bl)) ms_nil) (ms_cons (ms_if (PW.pt (mw_or (mt_not (mt_val (me_call O_law_is_int (fnN_noex _ _ _) (hr.mono (by decide)) T.g_law_is_int T.F_law_is_int.kp T.b_law_is_int (ma_cons (me_ix (ix_list.or ix_tup) s_ix (me_var 0) me_int (fun _ _ => rfl)) ma_nil)))) (mw_or (mt_not (mt_val (me_call O_law_is_int (fnN_noex _ _ _) (hr.mono (by decide)) T.g_law_is_int T.F_law_is_int.kp T.b_law_is_int (ma_cons (me_ix (ix_list.or ix_tup) s_ix (me_var 0) me_int (fun _ _ => rfl)) ma_nil)))) (mw_or1 (mt_cmp op_lt s_cmp (me_ix (ix_list.or ix_tup) s_ix (me_var 0) me_int (fun _ _ => rfl)) me_int (nomark _)))))) (ms_one (ms_ret me_bl)) ms_nil) (ms_one (ms_ret (me_cmp (op_eqD hr.units) s_eq (me_call O_law_gcd (fnN_noex _ _ _) (hr.mono (by decide)) T.g_law_gcd T.F_law_gcd.kp T.b_law_gcd (ma_cons (me_ix (ix_list.or ix_tup) s_ix (me_var 0) me_int (fun _ _ => rfl)) (ma_cons (me_ix (ix_list.or ix_tup) s_ix (me_var 0) me_int (fun _ _ => rfl)) ma_nil))) me_int (nomark _)))))
theorem ok_law_edge (T : Txt K mg) : FnOk P w K mg base CX0 3 T.a_law_edge T.fd_law_edge ["d", "edges"] (spN K F_law_edge) := by
  have O_law_draw : FnOk P w K mg base CX0 1 T.a_law_draw T.fd_law_draw _ (spN K F_law_draw) := ok_law_draw T
  have O_law_pick : FnOk P w K mg base CX0 2 T.a_law_pick T.fd_law_pick _ (spN K F_law_pick) := ok_law_pick T
  have O_law_r : FnOk P w K mg base CX0 2 T.a_law_r T.fd_law_r _ (spN K F_law_r) := ok_law_r T
  refine fn_ok (k := 2) (N := ["d", "edges", "way", "sign", "half"]) (ps := ["d", "edges"]) (ψ := S_law_edge) T.F_law_edge sc_law_edge (fun cdv A outer s H E hr => ?_)
  have hu := hr.units
  exact ms_cons (ms_set (i := 2) sc_law_edge.nd rfl (by first | exact Or.inl rfl | exact Or.inr rfl) (me_call O_law_draw (fnN_noex _ _ _) (hr.mono (by decide)) T.g_law_draw T.F_law_draw.kp T.b_law_draw (ma_cons (me_var 0) (ma_cons me_int ma_nil)))) (ms_cons (ms_set (i := 3) sc_law_edge.nd rfl (by first | exact Or.inl rfl | exact Or.inr rfl) (me_op op_sub s_sub me_int (me_op op_mulA s_mul me_int (me_call O_law_draw (fnN_noex _ _ _) (hr.mono (by decide)) T.g_law_draw T.F_law_draw.kp T.b_law_draw (ma_cons (me_var 0) (ma_cons me_int ma_nil)))))) (ms_cons (ms_if (PW.pt (mw_and (mt_cmp (op_eqD hr.units) s_eq (me_var 2) me_int (nomark _)) (mw_and1 (mt_cmp op_gt s_cmp (me_callB call_len_seq s_len (by rfl) T.z_len PySem.boot_len (ma_cons (me_var 1) ma_nil)) me_int (nomark _))))) (ms_one (ms_ret (me_call O_law_pick (fnN_noex _ _ _) (hr.mono (by decide)) T.g_law_pick T.F_law_pick.kp T.b_law_pick (ma_cons (me_var 0) (ma_cons (me_var 1) ma_nil))))) ms_nil) (ms_cons (ms_if (mt_cmp (op_eqD hr.units) s_eq (me_var 2) me_int (nomark _)) (ms_one (ms_ret (me_call O_law_r (fnN_noex _ _ _) (hr.mono (by decide)) T.g_law_r T.F_law_r.kp T.b_law_r (ma_cons (me_op op_mulA s_mul (me_var 3) (me_op op_add s_add (me_op op_mulA s_mul me_int (me_call O_law_draw (fnN_noex _ _ _) (hr.mono (by decide)) T.g_law_draw T.F_law_draw.kp T.b_law_draw (ma_cons (me_var 0) (ma_cons me_int ma_nil)))) me_int)) (ma_cons me_int ma_nil))))) ms_nil) (ms_cons (ms_if (mt_cmp (op_eqD hr.units) s_eq (me_var 2) me_int (nomark _)) (ms_one (ms_ret (me_tup (ma_cons (me_op op_mulA s_mul (me_var 3) (me_call O_law_draw (fnN_noex _ _ _) (hr.mono (by decide)) T.g_law_draw T.F_law_draw.kp T.b_law_draw (ma_cons (me_var 0) (ma_cons me_int ma_nil)))) (ma_cons me_int ma_nil))))) ms_nil) (ms_cons (ms_if (mt_cmp (op_eqD hr.units) s_eq (me_var 2) me_int (nomark _)) (ms_cons (ms_set (i := 4) sc_law_edge.nd rfl (by first | exact Or.inl rfl | exact Or.inr rfl) (me_op op_add s_add me_int (me_call O_law_draw (fnN_noex _ _ _) (hr.mono (by decide)) T.g_law_draw T.F_law_draw.kp T.b_law_draw (ma_cons (me_var 0) (ma_cons me_int ma_nil))))) (ms_one (ms_ret (me_call O_law_r (fnN_noex _ _ _) (hr.mono (by decide)) T.g_law_r T.F_law_r.kp T.b_law_r (ma_cons (me_op op_sub s_sub (me_op op_add s_add (me_op op_mulA s_mul (me_op op_mulA s_mul (me_var 3) (me_op op_add s_add (me_op op_mulA s_mul me_int (me_call O_law_draw (fnN_noex _ _ _) (hr.mono (by decide)) T.g_law_draw T.F_law_draw.kp T.b_law_draw (ma_cons (me_var 0) (ma_cons me_int ma_nil)))) me_int)) (me_var 4)) (me_call O_law_draw (fnN_noex _ _ _) (hr.mono (by decide)) T.g_law_draw T.F_law_draw.kp T.b_law_draw (ma_cons (me_var 0) (ma_cons me_int ma_nil)))) me_int) (ma_cons (me_op op_mulA s_mul me_int (me_var 4)) ma_nil)))))) ms_nil) (ms_cons (ms_if (mt_cmp (op_eqD hr.units) s_eq (me_var 2) me_int (nomark _)) (ms_one (ms_ret (me_call O_law_r (fnN_noex _ _ _) (hr.mono (by decide)) T.g_law_r T.F_law_r.kp T.b_law_r (ma_cons (me_op op_add s_add (me_op op_mulA s_mul (me_op op_mulA s_mul (me_var 3) (me_call O_law_draw (fnN_noex _ _ _) (hr.mono (by decide)) T.g_law_draw T.F_law_draw.kp T.b_law_draw (ma_cons (me_var 0) (ma_cons (me_op op_pow s_pow me_int me_int) ma_nil)))) (me_op op_pow s_pow me_int me_int)) (me_call O_law_draw (fnN_noex _ _ _) (hr.mono (by decide)) T.g_law_draw T.F_law_draw.kp T.b_law_draw (ma_cons (me_var 0) (ma_cons (me_op op_pow s_pow me_int me_int) ma_nil)))) (ma_cons (me_op op_add s_add me_int (me_call O_law_draw (fnN_noex _ _ _) (hr.mono (by decide)) T.g_law_draw T.F_law_draw.kp T.b_law_draw (ma_cons (me_var 0) (ma_cons (me_op op_pow s_pow me_int me_int) ma_nil)))) ma_nil))))) ms_nil) (ms_one (ms_ret (me_call O_law_r (fnN_noex _ _ _) (hr.mono (by decide)) T.g_law_r T.F_law_r.kp T.b_law_r (ma_cons (me_op op_mulA s_mul (me_var 3) (me_call O_law_draw (fnN_noex _ _ _) (hr.mono (by decide)) T.g_law_draw T.F_law_draw.kp T.b_law_draw (ma_cons (me_var 0) (ma_cons me_int ma_nil)))) (ma_cons (me_op op_add s_add me_int (me_call O_law_draw (fnN_noex _ _ _) (hr.mono (by decide)) T.g_law_draw T.F_law_draw.kp T.b_law_draw (ma_cons (me_var 0) (ma_cons me_int ma_nil)))) ma_nil)))))))))))
theorem ok_law_layout (T : Txt K mg) : FnOk P w K mg base CX0 4 T.a_law_layout T.fd_law_layout ["d"] (spN K F_law_layout) := by
  have O_law_draw : FnOk P w K mg base CX0 1 T.a_law_draw T.fd_law_draw _ (spN K F_law_draw) := ok_law_draw T
  have O_law_edge : FnOk P w K mg base CX0 3 T.a_law_edge T.fd_law_edge _ (spN K F_law_edge) := ok_law_edge T
  refine fn_ok (k := 3) (N := ["d", "edges", "told", "k", "place", "j", "edge"]) (ps := ["d"]) (ψ := S_law_layout) T.F_law_layout sc_law_layout (fun cdv A outer s H E hr => ?_)
  have hu := hr.units
  exact ms_cons (ms_set (i := 1) sc_law_layout.nd rfl (by first | exact Or.inl rfl | exact Or.inr rfl) (me_lst ma_nil)) (ms_cons (ms_set (i := 2) sc_law_layout.nd rfl (by first | exact Or.inl rfl | exact Or.inr rfl) (me_lst ma_nil)) (ms_cons (ms_for PassesOwn.never rfl (mi_range1 (by rfl) T.z_range (ma_cons (me_op op_add s_add me_int (me_call O_law_draw (fnN_noex _ _ _) (hr.mono (by decide)) T.g_law_draw T.F_law_draw.kp T.b_law_draw (ma_cons (me_var 0) (ma_cons me_int ma_nil)))) ma_nil)) (pg_name (i := 3) sc_law_layout.nd rfl (by first | exact Or.inl rfl | exact Or.inr rfl)) tg_name (ms_cons (ms_if (mt_cmp (op_eqD hr.units) s_eq (me_call O_law_draw (fnN_noex _ _ _) (hr.mono (by decide)) T.g_law_draw T.F_law_draw.kp T.b_law_draw (ma_cons (me_var 0) (ma_cons me_int ma_nil))) me_int (nomark _)) (ms_cons (ms_expr (me_mt PySem.F.plainAttrs_list PySem.F.slot_list_append PySem.F.type_list_append mt_append s_append (me_var 2) (ma_cons me_non ma_nil))) (ms_one ms_cnt)) ms_nil) (ms_cons (ms_set (i := 4) sc_law_layout.nd rfl (by first | exact Or.inl rfl | exact Or.inr rfl) (me_lst ma_nil)) (ms_cons (ms_for PassesOwn.never rfl (mi_range1 (by rfl) T.z_range (ma_cons me_int ma_nil)) (pg_name (i := 5) sc_law_layout.nd rfl (by first | exact Or.inl rfl | exact Or.inr rfl)) tg_name (ms_cons (ms_set (i := 6) sc_law_layout.nd rfl (by first | exact Or.inl rfl | exact Or.inr rfl) (me_call O_law_edge (fnN_noex _ _ _) (hr.mono (by decide)) T.g_law_edge T.F_law_edge.kp T.b_law_edge (ma_cons (me_var 0) (ma_cons (me_var 1) ma_nil)))) (ms_cons (ms_expr (me_mt PySem.F.plainAttrs_list PySem.F.slot_list_append PySem.F.type_list_append mt_append s_append (me_var 1) (ma_cons (me_var 6) ma_nil))) (ms_one (ms_expr (me_mt PySem.F.plainAttrs_list PySem.F.slot_list_append PySem.F.type_list_append mt_append s_append (me_var 4) (ma_cons (me_var 6) ma_nil))))))) (ms_one (ms_expr (me_mt PySem.F.plainAttrs_list PySem.F.slot_list_append PySem.F.type_list_append mt_append s_append (me_var 2) (ma_cons (me_callTy call_tuple_of s_tuple (by rfl) T.z_tuple (by decide +kernel) (ma_cons (me_var 4) ma_nil)) ma_nil)))))))) (ms_one (ms_ret (me_callTy call_tuple_of s_tuple (by rfl) T.z_tuple (by decide +kernel) (ma_cons (me_var 2) ma_nil))))))
theorem ok_law_near (T : Txt K mg) : FnOk P w K mg base CX0 3 T.a_law_near T.fd_law_near ["edge", "moved"] (spN K F_law_near) := by
  have O_law_is_r : FnOk P w K mg base CX0 2 T.a_law_is_r T.fd_law_is_r _ (spN K F_law_is_r) := ok_law_is_r T
  refine fn_ok (k := 2) (N := ["edge", "moved", "twice"]) (ps := ["edge", "moved"]) (ψ := S_law_near) T.F_law_near sc_law_near (fun cdv A outer s H E hr => ?_)
  have hu := hr.units
  exact ms_cons (ms_if (PW.pt (mw_or (mt_not (mt_val (me_call O_law_is_r (fnN_noex _ _ _) (hr.mono (by decide)) T.g_law_is_r T.F_law_is_r.kp T.b_law_is_r (ma_cons (me_var 1) ma_nil)))) (mw_or1 (mt_cmp (op_neD hr.units) s_ne (me_ix (ix_list.or ix_tup) s_ix (me_var 1) me_int (fun _ _ => rfl)) me_int (nomark _))))) (ms_one (ms_ret me_bl)) ms_nil) (ms_cons (ms_set (i := 2) sc_law_near.nd rfl (by first | exact Or.inl rfl | exact Or.inr rfl) (me_op op_mulA s_mul me_int (me_op op_sub s_sub (me_op op_mulA s_mul (me_ix (ix_list.or ix_tup) s_ix (me_var 1) me_int (fun _ _ => rfl)) (me_ix (ix_list.or ix_tup) s_ix (me_var 0) me_int (fun _ _ => rfl))) (me_ix (ix_list.or ix_tup) s_ix (me_var 0) me_int (fun _ _ => rfl))))) (ms_one (ms_ret (me_and (me_cmp op_lt s_cmp (me_un un_neg s_neg (me_ix (ix_list.or ix_tup) s_ix (me_var 0) me_int (fun _ _ => rfl))) (me_var 2) (nomark _)) (me_one (me_cmp op_le s_cmp (me_var 2) (me_ix (ix_list.or ix_tup) s_ix (me_var 0) me_int (fun _ _ => rfl)) (nomark _)))))))
theorem ok_law_pairs (T : Txt K mg) : FnOk P w K mg base CX0 1 T.a_law_pairs T.fd_law_pairs ["layout", "told"] (spN K F_law_pairs) := by
  refine fn_ok (k := 0) (N := ["layout", "told", "pairs", "place", "moved", "edge", "new"]) (ps := ["layout", "told"]) (ψ := S_law_pairs) T.F_law_pairs sc_law_pairs (fun cdv A outer s H E hr => ?_)
  have hu := hr.units
  exact ms_cons (ms_if (PW.pt (mw_or (mt_not (mt_val (me_callB call_isi s_isi (by rfl) T.z_isinstance (by decide +kernel) (ma_cons (me_var 1) (ma_cons (me_c (pe_bltn (v := .ty "tuple") (u := .type "tuple") (by rfl) T.z_tuple (by decide +kernel) rfl) (fun _ _ => rfl)) ma_nil))))) (mw_or1 (mt_cmp (op_neD hr.units) s_ne (me_callB call_len_seq s_len (by rfl) T.z_len PySem.boot_len (ma_cons (me_var 1) ma_nil)) (me_callB call_len_seq s_len (by rfl) T.z_len PySem.boot_len (ma_cons (me_var 0) ma_nil)) (nomark _))))) (ms_one (ms_ret me_non)) ms_nil) (ms_cons (ms_set (i := 2) sc_law_pairs.nd rfl (by first | exact Or.inl rfl | exact Or.inr rfl) (me_lst ma_nil)) (ms_cons (ms_for PassesOwn.never rfl (mi_zip (by rfl) T.z_zip (ma_cons (me_var 0) (ma_cons (me_var 1) ma_nil))) (pg_tup rfl (pgs_cons (pg_name (i := 3) sc_law_pairs.nd rfl (by first | exact Or.inl rfl | exact Or.inr rfl)) (pgs_cons (pg_name (i := 4) sc_law_pairs.nd rfl (by first | exact Or.inl rfl | exact Or.inr rfl)) pgs_nil))) (tg_tup (tgs_cons tg_name (tgs_cons tg_name tgs_nil)) rfl) (ms_cons (ms_if (mt_cmp op_isN s_is (me_var 3) me_non (nomark _)) (ms_cons (ms_if (mt_cmp op_notN s_isnt (me_var 4) me_non (nomark _)) (ms_one (ms_ret me_non)) ms_nil) (ms_one ms_cnt)) ms_nil) (ms_cons (ms_if (PW.pt (mw_or (mt_not (mt_val (me_callB call_isi s_isi (by rfl) T.z_isinstance (by decide +kernel) (ma_cons (me_var 4) (ma_cons (me_c (pe_bltn (v := .ty "tuple") (u := .type "tuple") (by rfl) T.z_tuple (by decide +kernel) rfl) (fun _ _ => rfl)) ma_nil))))) (mw_or1 (mt_cmp (op_neD hr.units) s_ne (me_callB call_len_seq s_len (by rfl) T.z_len PySem.boot_len (ma_cons (me_var 4) ma_nil)) me_int (nomark _))))) (ms_one (ms_ret me_non)) ms_nil) (ms_one (ms_for PassesOwn.never rfl (mi_zip (by rfl) T.z_zip (ma_cons (me_var 3) (ma_cons (me_var 4) ma_nil))) (pg_tup rfl (pgs_cons (pg_name (i := 5) sc_law_pairs.nd rfl (by first | exact Or.inl rfl | exact Or.inr rfl)) (pgs_cons (pg_name (i := 6) sc_law_pairs.nd rfl (by first | exact Or.inl rfl | exact Or.inr rfl)) pgs_nil))) (tg_tup (tgs_cons tg_name (tgs_cons tg_name tgs_nil)) rfl) (ms_one (ms_expr (me_mt PySem.F.plainAttrs_list PySem.F.slot_list_append PySem.F.type_list_append mt_append s_append (me_var 2) (ma_cons (me_tup (ma_cons (me_var 5) (ma_cons (me_var 6) ma_nil))) ma_nil))))))))) (ms_one (ms_ret (me_var 2)))))
theorem ok_law_right (T : Txt K mg) : FnOk P w K mg base CX0 4 T.a_law_right T.fd_law_right ["layout", "told"] (spN K F_law_right) := by
  have O_law_lt : FnOk P w K mg base CX0 1 T.a_law_lt T.fd_law_lt _ (spN K F_law_lt) := ok_law_lt T
  have O_law_near : FnOk P w K mg base CX0 3 T.a_law_near T.fd_law_near _ (spN K F_law_near) := ok_law_near T
  have O_law_pairs : FnOk P w K mg base CX0 1 T.a_law_pairs T.fd_law_pairs _ (spN K F_law_pairs) := ok_law_pairs T
  refine fn_ok (k := 3) (N := ["layout", "told", "pairs", "edge", "new", "other", "also"]) (ps := ["layout", "told"]) (ψ := S_law_right) T.F_law_right sc_law_right (fun cdv A outer s H E hr => ?_)
  have hu := hr.units
  exact ms_cons (ms_set (i := 2) sc_law_right.nd rfl (by first | exact Or.inl rfl | exact Or.inr rfl) (me_call O_law_pairs (fnN_noex _ _ _) (hr.mono (by decide)) T.g_law_pairs T.F_law_pairs.kp T.b_law_pairs (ma_cons (me_var 0) (ma_cons (me_var 1) ma_nil)))) (ms_cons (ms_if (mt_cmp op_isN s_is (me_var 2) me_non (nomark _)) (ms_one (ms_ret me_bl)) ms_nil) (ms_cons (ms_if (mt_not (mt_val (me_callB (cr_all rfl) s_all (by rfl) T.z_all (by decide +kernel) (ma_cons (me_lc (own := [("edge", 3), ("new", 4)]) rfl sc_law_right.nd (mi_seq (me_var 2)) (blkOk_by (N := ["layout", "told", "pairs", "edge", "new", "other", "also"]) (sc := defScope st_law_right) (by decide +kernel)) (fun _ _ _ _ _ => (pg_tup rfl (pgs_cons (pg_name (i := 3) sc_law_right.nd rfl (by first | exact Or.inl rfl | exact Or.inr rfl)) (pgs_cons (pg_name (i := 4) sc_law_right.nd rfl (by first | exact Or.inl rfl | exact Or.inr rfl)) pgs_nil)))) (tg_tup (tgs_cons tg_name (tgs_cons tg_name tgs_nil)) rfl) (by decide) (fun _ _ _ _ _ => mts_nil) (fun _ _ _ _ _ => (me_call O_law_near (fnN_noex _ _ _) (hr.mono (by decide)) T.g_law_near T.F_law_near.kp T.b_law_near (ma_cons (me_var 3) (ma_cons (me_var 4) ma_nil))))) ma_nil)))) (ms_one (ms_ret me_bl)) ms_nil) (ms_cons (ms_for PassesOwn.never rfl (mi_seq (me_var 2)) (pg_tup rfl (pgs_cons (pg_name (i := 3) sc_law_right.nd rfl (by first | exact Or.inl rfl | exact Or.inr rfl)) (pgs_cons (pg_name (i := 4) sc_law_right.nd rfl (by first | exact Or.inl rfl | exact Or.inr rfl)) pgs_nil))) (tg_tup (tgs_cons tg_name (tgs_cons tg_name tgs_nil)) rfl) (ms_one (ms_for PassesOwn.never rfl (mi_seq (me_var 2)) (pg_tup rfl (pgs_cons (pg_name (i := 5) sc_law_right.nd rfl (by first | exact Or.inl rfl | exact Or.inr rfl)) (pgs_cons (pg_name (i := 6) sc_law_right.nd rfl (by first | exact Or.inl rfl | exact Or.inr rfl)) pgs_nil))) (tg_tup (tgs_cons tg_name (tgs_cons tg_name tgs_nil)) rfl) (ms_cons (ms_if (PW.pt (mw_and (mt_cmp (op_eqD hr.units) s_eq (me_var 3) (me_var 5) (nomark _)) (mw_and1 (mt_cmp (op_neD hr.units) s_ne (me_var 4) (me_var 6) (nomark _))))) (ms_one (ms_ret me_bl)) ms_nil) (ms_one (ms_if (PW.pt (mw_and (mt_val (me_call O_law_lt (fnN_noex _ _ _) (hr.mono (by decide)) T.g_law_lt T.F_law_lt.kp T.b_law_lt (ma_cons (me_var 3) (ma_cons (me_var 5) ma_nil)))) (mw_and1 (mt_cmp op_gt s_cmp (me_ix (ix_list.or ix_tup) s_ix (me_var 4) me_int (fun _ _ => rfl)) (me_ix (ix_list.or ix_tup) s_ix (me_var 6) me_int (fun _ _ => rfl)) (nomark _))))) (ms_one (ms_ret me_bl)) ms_nil)))))) (ms_one (ms_ret me_bl)))))
theorem ok_law (T : Txt K mg) : FnOk P w K mg base CX0 5 T.a_law T.fd_law ["script"] (spN K F_law) := by
  have O_law_begin : FnOk P w K mg base CX0 1 T.a_law_begin T.fd_law_begin _ (spN K F_law_begin) := ok_law_begin T
  have O_law_layout : FnOk P w K mg base CX0 4 T.a_law_layout T.fd_law_layout _ (spN K F_law_layout) := ok_law_layout T
  have O_law_right : FnOk P w K mg base CX0 4 T.a_law_right T.fd_law_right _ (spN K F_law_right) := ok_law_right T
  have O_snapped : FnOk P w K mg base CX0 4 T.a_snapped T.fd_snapped _ (spN K F_snapped) := ok_snapped T
  refine fn_ok (k := 4) (N := ["script", "d", "layout", "told", "again", "turned", "back", "k"]) (ps := ["script"]) (ψ := S_law) T.F_law sc_law (fun cdv A outer s H E hr => ?_)
  have hu := hr.units
  exact ms_cons (ms_set (i := 1) sc_law.nd rfl (by first | exact Or.inl rfl | exact Or.inr rfl) (me_call O_law_begin (fnN_noex _ _ _) (hr.mono (by decide)) T.g_law_begin T.F_law_begin.kp T.b_law_begin (ma_cons (me_var 0) ma_nil))) (ms_cons (ms_set (i := 2) sc_law.nd rfl (by first | exact Or.inl rfl | exact Or.inr rfl) (me_call O_law_layout (fnN_noex _ _ _) (hr.mono (by decide)) T.g_law_layout T.F_law_layout.kp T.b_law_layout (ma_cons (me_var 1) ma_nil))) (ms_cons (ms_set (i := 3) sc_law.nd rfl (by first | exact Or.inl rfl | exact Or.inr rfl) (me_call O_snapped (fnN_noex _ _ _) (hr.mono (by decide)) T.g_snapped T.F_snapped.kp T.b_snapped (ma_cons (me_var 2) ma_nil))) (ms_cons (ms_if (mt_not (mt_val (me_call O_law_right (fnN_noex _ _ _) (hr.mono (by decide)) T.g_law_right T.F_law_right.kp T.b_law_right (ma_cons (me_var 2) (ma_cons (me_var 3) ma_nil))))) (ms_one (ms_ret me_bl)) ms_nil) (ms_cons (ms_set (i := 4) sc_law.nd rfl (by first | exact Or.inl rfl | exact Or.inr rfl) (me_call O_snapped (fnN_noex _ _ _) (hr.mono (by decide)) T.g_snapped T.F_snapped.kp T.b_snapped (ma_cons (me_var 3) ma_nil))) (ms_cons (ms_if (PW.pt (mw_or (mt_not (mt_val (me_call O_law_right (fnN_noex _ _ _) (hr.mono (by decide)) T.g_law_right T.F_law_right.kp T.b_law_right (ma_cons (me_var 3) (ma_cons (me_var 4) ma_nil))))) (mw_or1 (mt_cmp (op_neD hr.units) s_ne (me_var 4) (me_var 3) (nomark _))))) (ms_one (ms_ret me_bl)) ms_nil) (ms_cons (ms_set (i := 5) sc_law.nd rfl (by first | exact Or.inl rfl | exact Or.inr rfl) (me_callTy call_list_of s_list (by rfl) T.z_list (by decide +kernel) (ma_cons (me_var 2) ma_nil))) (ms_cons (ms_expr (me_mt0 PySem.F.plainAttrs_list PySem.F.slot_list_reverse PySem.F.type_list_reverse mt_reverse s_reverse (me_var 5))) (ms_cons (ms_set (i := 6) sc_law.nd rfl (by first | exact Or.inl rfl | exact Or.inr rfl) (me_call O_snapped (fnN_noex _ _ _) (hr.mono (by decide)) T.g_snapped T.F_snapped.kp T.b_snapped (ma_cons (me_callTy call_tuple_of s_tuple (by rfl) T.z_tuple (by decide +kernel) (ma_cons (me_var 5) ma_nil)) ma_nil))) (ms_cons (ms_if (mt_not (mt_val (me_call O_law_right (fnN_noex _ _ _) (hr.mono (by decide)) T.g_law_right T.F_law_right.kp T.b_law_right (ma_cons (me_callTy call_tuple_of s_tuple (by rfl) T.z_tuple (by decide +kernel) (ma_cons (me_var 5) ma_nil)) (ma_cons (me_var 6) ma_nil))))) (ms_one (ms_ret me_bl)) ms_nil) (ms_cons (ms_for PassesOwn.never rfl (mi_range1 (by rfl) T.z_range (ma_cons (me_callB call_len_seq s_len (by rfl) T.z_len PySem.boot_len (ma_cons (me_var 3) ma_nil)) ma_nil)) (pg_name (i := 7) sc_law.nd rfl (by first | exact Or.inl rfl | exact Or.inr rfl)) tg_name (ms_one (ms_if (mt_cmp (op_neD hr.units) s_ne (me_ix (ix_list.or ix_tup) s_ix (me_var 6) (me_var 7) (fun _ _ => rfl)) (me_ix (ix_list.or ix_tup) s_ix (me_var 3) (me_op op_sub s_sub (me_op op_sub s_sub (me_callB call_len_seq s_len (by rfl) T.z_len PySem.boot_len (ma_cons (me_var 3) ma_nil)) me_int) (me_var 7)) (fun _ _ => rfl)) (nomark _)) (ms_one (ms_ret me_bl)) ms_nil))) (ms_one (ms_ret (me_cmp (op_eqD hr.units) s_eq (me_call O_snapped (fnN_noex _ _ _) (hr.mono (by decide)) T.g_snapped T.F_snapped.kp T.b_snapped (ma_cons (me_var 2) ma_nil)) (me_var 3) (nomark _))))))))))))))
end
theorem all_mk {l : PySem.W.OpenLaw} {w : World} {K : PySem.W.Frag} {h : Heap} {mg : Str → Option Value} {fa : Addr} (X : K.In h) (G : h.Ns mainGlobals mg) (hfa : mg "law" = some (.ref fa))
    {f0 : Addr} {od0 an0 : Option Addr} {sl0 : Array (Option Value)} {oc0 kV0 dc0 pm0 cd0 ct0 : Value}
    (a0 : PySem.W.nsIn K mainGlobals "ratio" = some (some (.ref f0))) (l0 : K.lookup f0 = some ⟨oc0, od0, .func (PySem.W.fnOf "ratio" "ratio" (defArgs st_ratio) (defBody st_ratio) (defScope st_ratio) .none kV0 dc0 pm0 an0 cd0 ct0), sl0⟩) (c0 : PySem.W.codeIn K cd0 "ratio" = true) (k0 : PySem.W.keepIn K (.ref f0) = true)
    {f1 : Addr} {od1 an1 : Option Addr} {sl1 : Array (Option Value)} {oc1 kV1 dc1 pm1 cd1 ct1 : Value}
    (a1 : PySem.W.nsIn K mainGlobals "plus" = some (some (.ref f1))) (l1 : K.lookup f1 = some ⟨oc1, od1, .func (PySem.W.fnOf "plus" "plus" (defArgs st_plus) (defBody st_plus) (defScope st_plus) .none kV1 dc1 pm1 an1 cd1 ct1), sl1⟩) (c1 : PySem.W.codeIn K cd1 "plus" = true) (k1 : PySem.W.keepIn K (.ref f1) = true)
    {f2 : Addr} {od2 an2 : Option Addr} {sl2 : Array (Option Value)} {oc2 kV2 dc2 pm2 cd2 ct2 : Value}
    (a2 : PySem.W.nsIn K mainGlobals "floor_of" = some (some (.ref f2))) (l2 : K.lookup f2 = some ⟨oc2, od2, .func (PySem.W.fnOf "floor_of" "floor_of" (defArgs st_floor_of) (defBody st_floor_of) (defScope st_floor_of) .none kV2 dc2 pm2 an2 cd2 ct2), sl2⟩) (c2 : PySem.W.codeIn K cd2 "floor_of" = true) (k2 : PySem.W.keepIn K (.ref f2) = true)
    {f3 : Addr} {od3 an3 : Option Addr} {sl3 : Array (Option Value)} {oc3 kV3 dc3 pm3 cd3 ct3 : Value}
    (a3 : PySem.W.nsIn K mainGlobals "nearest" = some (some (.ref f3))) (l3 : K.lookup f3 = some ⟨oc3, od3, .func (PySem.W.fnOf "nearest" "nearest" (defArgs st_nearest) (defBody st_nearest) (defScope st_nearest) .none kV3 dc3 pm3 an3 cd3 ct3), sl3⟩) (c3 : PySem.W.codeIn K cd3 "nearest" = true) (k3 : PySem.W.keepIn K (.ref f3) = true)
    {f4 : Addr} {od4 an4 : Option Addr} {sl4 : Array (Option Value)} {oc4 kV4 dc4 pm4 cd4 ct4 : Value}
    (a4 : PySem.W.nsIn K mainGlobals "snapped" = some (some (.ref f4))) (l4 : K.lookup f4 = some ⟨oc4, od4, .func (PySem.W.fnOf "snapped" "snapped" (defArgs st_snapped) (defBody st_snapped) (defScope st_snapped) .none kV4 dc4 pm4 an4 cd4 ct4), sl4⟩) (c4 : PySem.W.codeIn K cd4 "snapped" = true) (k4 : PySem.W.keepIn K (.ref f4) = true)
    {f5 : Addr} {od5 an5 : Option Addr} {sl5 : Array (Option Value)} {oc5 kV5 dc5 pm5 cd5 ct5 : Value}
    (a5 : PySem.W.nsIn K mainGlobals "_law_begin" = some (some (.ref f5))) (l5 : K.lookup f5 = some ⟨oc5, od5, .func (PySem.W.fnOf "_law_begin" "_law_begin" (defArgs st_law_begin) (defBody st_law_begin) (defScope st_law_begin) .none kV5 dc5 pm5 an5 cd5 ct5), sl5⟩) (c5 : PySem.W.codeIn K cd5 "_law_begin" = true) (k5 : PySem.W.keepIn K (.ref f5) = true)
    {f6 : Addr} {od6 an6 : Option Addr} {sl6 : Array (Option Value)} {oc6 kV6 dc6 pm6 cd6 ct6 : Value}
    (a6 : PySem.W.nsIn K mainGlobals "_law_draw" = some (some (.ref f6))) (l6 : K.lookup f6 = some ⟨oc6, od6, .func (PySem.W.fnOf "_law_draw" "_law_draw" (defArgs st_law_draw) (defBody st_law_draw) (defScope st_law_draw) .none kV6 dc6 pm6 an6 cd6 ct6), sl6⟩) (c6 : PySem.W.codeIn K cd6 "_law_draw" = true) (k6 : PySem.W.keepIn K (.ref f6) = true)
    {f7 : Addr} {od7 an7 : Option Addr} {sl7 : Array (Option Value)} {oc7 kV7 dc7 pm7 cd7 ct7 : Value}
    (a7 : PySem.W.nsIn K mainGlobals "_law_pick" = some (some (.ref f7))) (l7 : K.lookup f7 = some ⟨oc7, od7, .func (PySem.W.fnOf "_law_pick" "_law_pick" (defArgs st_law_pick) (defBody st_law_pick) (defScope st_law_pick) .none kV7 dc7 pm7 an7 cd7 ct7), sl7⟩) (c7 : PySem.W.codeIn K cd7 "_law_pick" = true) (k7 : PySem.W.keepIn K (.ref f7) = true)
    {f8 : Addr} {od8 an8 : Option Addr} {sl8 : Array (Option Value)} {oc8 kV8 dc8 pm8 cd8 ct8 : Value}
    (a8 : PySem.W.nsIn K mainGlobals "_law_gcd" = some (some (.ref f8))) (l8 : K.lookup f8 = some ⟨oc8, od8, .func (PySem.W.fnOf "_law_gcd" "_law_gcd" (defArgs st_law_gcd) (defBody st_law_gcd) (defScope st_law_gcd) .none kV8 dc8 pm8 an8 cd8 ct8), sl8⟩) (c8 : PySem.W.codeIn K cd8 "_law_gcd" = true) (k8 : PySem.W.keepIn K (.ref f8) = true)
    {f9 : Addr} {od9 an9 : Option Addr} {sl9 : Array (Option Value)} {oc9 kV9 dc9 pm9 cd9 ct9 : Value}
    (a9 : PySem.W.nsIn K mainGlobals "_law_r" = some (some (.ref f9))) (l9 : K.lookup f9 = some ⟨oc9, od9, .func (PySem.W.fnOf "_law_r" "_law_r" (defArgs st_law_r) (defBody st_law_r) (defScope st_law_r) .none kV9 dc9 pm9 an9 cd9 ct9), sl9⟩) (c9 : PySem.W.codeIn K cd9 "_law_r" = true) (k9 : PySem.W.keepIn K (.ref f9) = true)
    {f10 : Addr} {od10 an10 : Option Addr} {sl10 : Array (Option Value)} {oc10 kV10 dc10 pm10 cd10 ct10 : Value}
    (a10 : PySem.W.nsIn K mainGlobals "_law_lt" = some (some (.ref f10))) (l10 : K.lookup f10 = some ⟨oc10, od10, .func (PySem.W.fnOf "_law_lt" "_law_lt" (defArgs st_law_lt) (defBody st_law_lt) (defScope st_law_lt) .none kV10 dc10 pm10 an10 cd10 ct10), sl10⟩) (c10 : PySem.W.codeIn K cd10 "_law_lt" = true) (k10 : PySem.W.keepIn K (.ref f10) = true)
    {f11 : Addr} {od11 an11 : Option Addr} {sl11 : Array (Option Value)} {oc11 kV11 dc11 pm11 cd11 ct11 : Value}
    (a11 : PySem.W.nsIn K mainGlobals "_law_is_int" = some (some (.ref f11))) (l11 : K.lookup f11 = some ⟨oc11, od11, .func (PySem.W.fnOf "_law_is_int" "_law_is_int" (defArgs st_law_is_int) (defBody st_law_is_int) (defScope st_law_is_int) .none kV11 dc11 pm11 an11 cd11 ct11), sl11⟩) (c11 : PySem.W.codeIn K cd11 "_law_is_int" = true) (k11 : PySem.W.keepIn K (.ref f11) = true)
    {f12 : Addr} {od12 an12 : Option Addr} {sl12 : Array (Option Value)} {oc12 kV12 dc12 pm12 cd12 ct12 : Value}
    (a12 : PySem.W.nsIn K mainGlobals "_law_is_r" = some (some (.ref f12))) (l12 : K.lookup f12 = some ⟨oc12, od12, .func (PySem.W.fnOf "_law_is_r" "_law_is_r" (defArgs st_law_is_r) (defBody st_law_is_r) (defScope st_law_is_r) .none kV12 dc12 pm12 an12 cd12 ct12), sl12⟩) (c12 : PySem.W.codeIn K cd12 "_law_is_r" = true) (k12 : PySem.W.keepIn K (.ref f12) = true)
    {f13 : Addr} {od13 an13 : Option Addr} {sl13 : Array (Option Value)} {oc13 kV13 dc13 pm13 cd13 ct13 : Value}
    (a13 : PySem.W.nsIn K mainGlobals "_law_edge" = some (some (.ref f13))) (l13 : K.lookup f13 = some ⟨oc13, od13, .func (PySem.W.fnOf "_law_edge" "_law_edge" (defArgs st_law_edge) (defBody st_law_edge) (defScope st_law_edge) .none kV13 dc13 pm13 an13 cd13 ct13), sl13⟩) (c13 : PySem.W.codeIn K cd13 "_law_edge" = true) (k13 : PySem.W.keepIn K (.ref f13) = true)
    {f14 : Addr} {od14 an14 : Option Addr} {sl14 : Array (Option Value)} {oc14 kV14 dc14 pm14 cd14 ct14 : Value}
    (a14 : PySem.W.nsIn K mainGlobals "_law_layout" = some (some (.ref f14))) (l14 : K.lookup f14 = some ⟨oc14, od14, .func (PySem.W.fnOf "_law_layout" "_law_layout" (defArgs st_law_layout) (defBody st_law_layout) (defScope st_law_layout) .none kV14 dc14 pm14 an14 cd14 ct14), sl14⟩) (c14 : PySem.W.codeIn K cd14 "_law_layout" = true) (k14 : PySem.W.keepIn K (.ref f14) = true)
    {f15 : Addr} {od15 an15 : Option Addr} {sl15 : Array (Option Value)} {oc15 kV15 dc15 pm15 cd15 ct15 : Value}
    (a15 : PySem.W.nsIn K mainGlobals "_law_near" = some (some (.ref f15))) (l15 : K.lookup f15 = some ⟨oc15, od15, .func (PySem.W.fnOf "_law_near" "_law_near" (defArgs st_law_near) (defBody st_law_near) (defScope st_law_near) .none kV15 dc15 pm15 an15 cd15 ct15), sl15⟩) (c15 : PySem.W.codeIn K cd15 "_law_near" = true) (k15 : PySem.W.keepIn K (.ref f15) = true)
    {f16 : Addr} {od16 an16 : Option Addr} {sl16 : Array (Option Value)} {oc16 kV16 dc16 pm16 cd16 ct16 : Value}
    (a16 : PySem.W.nsIn K mainGlobals "_law_pairs" = some (some (.ref f16))) (l16 : K.lookup f16 = some ⟨oc16, od16, .func (PySem.W.fnOf "_law_pairs" "_law_pairs" (defArgs st_law_pairs) (defBody st_law_pairs) (defScope st_law_pairs) .none kV16 dc16 pm16 an16 cd16 ct16), sl16⟩) (c16 : PySem.W.codeIn K cd16 "_law_pairs" = true) (k16 : PySem.W.keepIn K (.ref f16) = true)
    {f17 : Addr} {od17 an17 : Option Addr} {sl17 : Array (Option Value)} {oc17 kV17 dc17 pm17 cd17 ct17 : Value}
    (a17 : PySem.W.nsIn K mainGlobals "_law_right" = some (some (.ref f17))) (l17 : K.lookup f17 = some ⟨oc17, od17, .func (PySem.W.fnOf "_law_right" "_law_right" (defArgs st_law_right) (defBody st_law_right) (defScope st_law_right) .none kV17 dc17 pm17 an17 cd17 ct17), sl17⟩) (c17 : PySem.W.codeIn K cd17 "_law_right" = true) (k17 : PySem.W.keepIn K (.ref f17) = true)
    {f18 : Addr} {od18 an18 : Option Addr} {sl18 : Array (Option Value)} {oc18 kV18 dc18 pm18 cd18 ct18 : Value}
    (a18 : PySem.W.nsIn K mainGlobals "law" = some (some (.ref f18))) (l18 : K.lookup f18 = some ⟨oc18, od18, .func (PySem.W.fnOf "law" "law" (defArgs st_law) (defBody st_law) (defScope st_law) .none kV18 dc18 pm18 an18 cd18 ct18), sl18⟩) (c18 : PySem.W.codeIn K cd18 "law" = true) (k18 : PySem.W.keepIn K (.ref f18) = true)
    {g0 : Addr} {gd0 : Option Addr} {gn0 : Nat} {gs0 : Array (Option Value)} {t0_0 t0_1 : Tok}
    (ga0 : PySem.W.nsIn K mainGlobals "HALF" = some (some (.ref g0))) (gl0 : K.lookup g0 = some ⟨.type "tuple", gd0, .seq #[.int 1 t0_0, .int 2 t0_1] gn0, gs0⟩)
    (im0 : PySem.W.nsIn K mainGlobals "gcd" = some (some (.builtin "math.gcd")))
    (z0 : PySem.W.nsIn K mainGlobals "abs" = some none)
    (z1 : PySem.W.nsIn K mainGlobals "all" = some none)
    (z2 : PySem.W.nsIn K mainGlobals "bool" = some none)
    (z3 : PySem.W.nsIn K mainGlobals "int" = some none)
    (z4 : PySem.W.nsIn K mainGlobals "isinstance" = some none)
    (z5 : PySem.W.nsIn K mainGlobals "len" = some none)
    (z6 : PySem.W.nsIn K mainGlobals "list" = some none)
    (z7 : PySem.W.nsIn K mainGlobals "range" = some none)
    (z8 : PySem.W.nsIn K mainGlobals "tuple" = some none)
    (z9 : PySem.W.nsIn K mainGlobals "zip" = some none)
    : ∃ fd : FuncData, (∀ (s : Shared) (v : Value), BindsTo s fd ⟨[v], []⟩ [("script", v)]) ∧ ∀ base : Heap, K.In base → base.Ns mainGlobals mg → FnOk l.prog w K mg base CX0 5 fa fd ["script"] (spN K F_law) := by
  have e := hfa.symm.trans (PySem.W.mg_of X G a18)
  cases e
  let T : Txt K mg := {
    a_ratio := f0, fd_ratio := _, F_ratio := fun_mk (st := st_ratio) l0 c0 k0, g_ratio := PySem.W.mg_of X G a0, b_ratio := (fun_mk (st := st_ratio) l0 c0 k0).binds (ps := ["n", "d"]) fun _ _ _ _ _ _ us hl => match us, hl with | [_, _], _ => rfl,
    a_plus := f1, fd_plus := _, F_plus := fun_mk (st := st_plus) l1 c1 k1, g_plus := PySem.W.mg_of X G a1, b_plus := (fun_mk (st := st_plus) l1 c1 k1).binds (ps := ["a", "b"]) fun _ _ _ _ _ _ us hl => match us, hl with | [_, _], _ => rfl,
    a_floor_of := f2, fd_floor_of := _, F_floor_of := fun_mk (st := st_floor_of) l2 c2 k2, g_floor_of := PySem.W.mg_of X G a2, b_floor_of := (fun_mk (st := st_floor_of) l2 c2 k2).binds (ps := ["a"]) fun _ _ _ _ _ _ us hl => match us, hl with | [_], _ => rfl,
    a_nearest := f3, fd_nearest := _, F_nearest := fun_mk (st := st_nearest) l3 c3 k3, g_nearest := PySem.W.mg_of X G a3, b_nearest := (fun_mk (st := st_nearest) l3 c3 k3).binds (ps := ["value"]) fun _ _ _ _ _ _ us hl => match us, hl with | [_], _ => rfl,
    a_snapped := f4, fd_snapped := _, F_snapped := fun_mk (st := st_snapped) l4 c4 k4, g_snapped := PySem.W.mg_of X G a4, b_snapped := (fun_mk (st := st_snapped) l4 c4 k4).binds (ps := ["layout"]) fun _ _ _ _ _ _ us hl => match us, hl with | [_], _ => rfl,
    a_law_begin := f5, fd_law_begin := _, F_law_begin := fun_mk (st := st_law_begin) l5 c5 k5, g_law_begin := PySem.W.mg_of X G a5, b_law_begin := (fun_mk (st := st_law_begin) l5 c5 k5).binds (ps := ["script"]) fun _ _ _ _ _ _ us hl => match us, hl with | [_], _ => rfl,
    a_law_draw := f6, fd_law_draw := _, F_law_draw := fun_mk (st := st_law_draw) l6 c6 k6, g_law_draw := PySem.W.mg_of X G a6, b_law_draw := (fun_mk (st := st_law_draw) l6 c6 k6).binds (ps := ["d", "many"]) fun _ _ _ _ _ _ us hl => match us, hl with | [_, _], _ => rfl,
    a_law_pick := f7, fd_law_pick := _, F_law_pick := fun_mk (st := st_law_pick) l7 c7 k7, g_law_pick := PySem.W.mg_of X G a7, b_law_pick := (fun_mk (st := st_law_pick) l7 c7 k7).binds (ps := ["d", "row"]) fun _ _ _ _ _ _ us hl => match us, hl with | [_, _], _ => rfl,
    a_law_gcd := f8, fd_law_gcd := _, F_law_gcd := fun_mk (st := st_law_gcd) l8 c8 k8, g_law_gcd := PySem.W.mg_of X G a8, b_law_gcd := (fun_mk (st := st_law_gcd) l8 c8 k8).binds (ps := ["a", "b"]) fun _ _ _ _ _ _ us hl => match us, hl with | [_, _], _ => rfl,
    a_law_r := f9, fd_law_r := _, F_law_r := fun_mk (st := st_law_r) l9 c9 k9, g_law_r := PySem.W.mg_of X G a9, b_law_r := (fun_mk (st := st_law_r) l9 c9 k9).binds (ps := ["n", "d"]) fun _ _ _ _ _ _ us hl => match us, hl with | [_, _], _ => rfl,
    a_law_lt := f10, fd_law_lt := _, F_law_lt := fun_mk (st := st_law_lt) l10 c10 k10, g_law_lt := PySem.W.mg_of X G a10, b_law_lt := (fun_mk (st := st_law_lt) l10 c10 k10).binds (ps := ["a", "b"]) fun _ _ _ _ _ _ us hl => match us, hl with | [_, _], _ => rfl,
    a_law_is_int := f11, fd_law_is_int := _, F_law_is_int := fun_mk (st := st_law_is_int) l11 c11 k11, g_law_is_int := PySem.W.mg_of X G a11, b_law_is_int := (fun_mk (st := st_law_is_int) l11 c11 k11).binds (ps := ["thing"]) fun _ _ _ _ _ _ us hl => match us, hl with | [_], _ => rfl,
    a_law_is_r := f12, fd_law_is_r := _, F_law_is_r := fun_mk (st := st_law_is_r) l12 c12 k12, g_law_is_r := PySem.W.mg_of X G a12, b_law_is_r := (fun_mk (st := st_law_is_r) l12 c12 k12).binds (ps := ["thing"]) fun _ _ _ _ _ _ us hl => match us, hl with | [_], _ => rfl,
    a_law_edge := f13, fd_law_edge := _, F_law_edge := fun_mk (st := st_law_edge) l13 c13 k13, g_law_edge := PySem.W.mg_of X G a13, b_law_edge := (fun_mk (st := st_law_edge) l13 c13 k13).binds (ps := ["d", "edges"]) fun _ _ _ _ _ _ us hl => match us, hl with | [_, _], _ => rfl,
    a_law_layout := f14, fd_law_layout := _, F_law_layout := fun_mk (st := st_law_layout) l14 c14 k14, g_law_layout := PySem.W.mg_of X G a14, b_law_layout := (fun_mk (st := st_law_layout) l14 c14 k14).binds (ps := ["d"]) fun _ _ _ _ _ _ us hl => match us, hl with | [_], _ => rfl,
    a_law_near := f15, fd_law_near := _, F_law_near := fun_mk (st := st_law_near) l15 c15 k15, g_law_near := PySem.W.mg_of X G a15, b_law_near := (fun_mk (st := st_law_near) l15 c15 k15).binds (ps := ["edge", "moved"]) fun _ _ _ _ _ _ us hl => match us, hl with | [_, _], _ => rfl,
    a_law_pairs := f16, fd_law_pairs := _, F_law_pairs := fun_mk (st := st_law_pairs) l16 c16 k16, g_law_pairs := PySem.W.mg_of X G a16, b_law_pairs := (fun_mk (st := st_law_pairs) l16 c16 k16).binds (ps := ["layout", "told"]) fun _ _ _ _ _ _ us hl => match us, hl with | [_, _], _ => rfl,
    a_law_right := f17, fd_law_right := _, F_law_right := fun_mk (st := st_law_right) l17 c17 k17, g_law_right := PySem.W.mg_of X G a17, b_law_right := (fun_mk (st := st_law_right) l17 c17 k17).binds (ps := ["layout", "told"]) fun _ _ _ _ _ _ us hl => match us, hl with | [_, _], _ => rfl,
    a_law := fa, fd_law := _, F_law := fun_mk (st := st_law) l18 c18 k18, g_law := PySem.W.mg_of X G a18, b_law := (fun_mk (st := st_law) l18 c18 k18).binds (ps := ["script"]) fun _ _ _ _ _ _ us hl => match us, hl with | [_], _ => rfl,
    a_HALF := g0, g_HALF := PySem.W.mg_of X G ga0, r_HALF := fun H m => rep_k (xs := [.int 1, .int 2]) gl0 (by show 2 ≤ sizeLine; decide) (.cons ⟨_, rfl⟩ (.cons ⟨_, rfl⟩ (.nil))) ⟨_, _, rfl, rfl, _, _, rfl, rfl, rfl⟩,
    g_gcd := PySem.W.mg_of X G im0,
    z_abs := PySem.W.mg_none_of X G z0,
    z_all := PySem.W.mg_none_of X G z1,
    z_bool := PySem.W.mg_none_of X G z2,
    z_int := PySem.W.mg_none_of X G z3,
    z_isinstance := PySem.W.mg_none_of X G z4,
    z_len := PySem.W.mg_none_of X G z5,
    z_list := PySem.W.mg_none_of X G z6,
    z_range := PySem.W.mg_none_of X G z7,
    z_tuple := PySem.W.mg_none_of X G z8,
    z_zip := PySem.W.mg_none_of X G z9 }
  exact ⟨_, fun s v => .of_eq rfl, fun base _ _ => ok_law T⟩
end G
namespace G
open PySem PySem.Spec PyProof.Rows L2 ML
local macro_rules | `(tactic| walk_at "wp") => `(tactic| simp only [wipeD, w_ok, w_ex, w_no, w_ret, w_stop, w_thn, w_var, w_c, w_e1, w_e2, w_anil, w_acons, w_args, w_val, w_cand, w_cor, w_cnot, w_cyes, w_eif, w_eand, w_eor, w_enot, w_mktup, w_mklst, w_add, w_sub, w_mul, w_fdiv, w_mod, w_pow, w_shl, w_neg, w_lt, w_le, w_gt, w_ge, w_is, w_isnt, isNon, w_eqI, w_neI, w_ixT, w_ixR, w_nop, w_seq, w_drop, w_sret, w_sretN, w_sif, w_brk, w_cnt, w_asg, gN, gT, gs, w_par, w_aug, w_put, w_putD, w_augput, w_ixL, w_mt0, w_mt, isTy_lst, w_append, w_reverse, w_lenT, w_lenR, w_abs, w_intI, w_intB, w_gcd, w_tupT, w_tupR, w_listT, w_allR, w_for, w_itT, w_itF, w_itR, w_rng1, w_zipT, w_lc, List.length_cons, List.length_nil, List.map_cons, List.map_nil, List.replicate, List.cons_append, List.nil_append, List.append_nil, List.getElem?_cons_zero, List.getElem?_cons_succ, List.set_cons_zero, List.set_cons_succ, List.getElem?_nil, Nat.reduceAdd, Nat.reduceSub, Nat.zero_add, if_true, if_false, Bool.false_eq_true, decide_eq_true_eq, Bool.not_eq_true', decide_eq_false_iff_not, Nat.sub_self, Bool.not_true, Bool.not_false, Nat.add_one_sub_one])
def rD (n d : Int) : D := .tup [.int n, .int d]
theorem atI0 {α : Type} (x : α) (l : List α) : atI (x :: l) 0 = some x := by
  have h : atI (x :: l) ((0 : Nat) : Int) = some x := atI_nat rfl
  exact h
theorem atI1 {α : Type} (x y : α) (l : List α) : atI (x :: y :: l) 1 = some y := by
  have h : atI (x :: y :: l) ((1 : Nat) : Int) = some y := atI_nat rfl
  exact h
theorem sz1 {n : Nat} (h : n ≤ 100000) : n ≤ sizeLine := Nat.le_trans h (by decide)
theorem WP.eq {α : Type} {r : R α} {x : α} {μ : Mm} (h : WP r (fun a μ1 => a = x ∧ μ1 = μ) fun _ _ => False) : r = .ok x μ := by
  obtain ⟨a, μ1, e, rfl, rfl⟩ := WP.to_ok h
  exact e
theorem gcd_facts (n d : Int) (h : 1 ≤ d) : 0 < ((Nat.gcd n.natAbs d.natAbs : Nat) : Int) ∧ ((Nat.gcd n.natAbs d.natAbs : Nat) : Int) ∣ n ∧ ((Nat.gcd n.natAbs d.natAbs : Nat) : Int) ∣ d ∧ ((Nat.gcd n.natAbs d.natAbs : Nat) : Int) ≤ d := by
  have h0 : 0 < Nat.gcd n.natAbs d.natAbs := Nat.gcd_pos_of_pos_right _ (by omega)
  have h1 : ((Nat.gcd n.natAbs d.natAbs : Nat) : Int) ∣ n := Int.ofNat_dvd_left.mpr (Nat.gcd_dvd_left _ _)
  have h2 : ((Nat.gcd n.natAbs d.natAbs : Nat) : Int) ∣ d := Int.ofNat_dvd_left.mpr (Nat.gcd_dvd_right _ _)
  exact ⟨by omega, h1, h2, Int.le_of_dvd (by omega) h2⟩
theorem log_small {j : Int} (h0 : 0 < j) (h : j < 2 ^ 100) : j.natAbs.log2 < 9000 := by
  have : j.natAbs.log2 < 100 := (Nat.log2_lt (by omega)).mpr (by omega)
  omega
theorem ratio_eq (n d : Int) (μ : Mm) (h : 2 ≤ d) (hz : d < 2 ^ 100) : F_ratio [.int n, .int d] μ = .ok (rD (n / (Nat.gcd n.natAbs d.natAbs : Nat)) (d / (Nat.gcd n.natAbs d.natAbs : Nat))) μ := by
  refine WP.eq ?_
  obtain ⟨g0, g1, g2, g3⟩ := gcd_facts n d (by omega)
  refine fn_in (by rfl) ?_
  unfold S_ratio
  have h1 : ¬ d < 0 := by omega
  have h2 : ¬ d = 1 := by omega
  walk_at "wp"
  simp only [h1, h2, if_false]
  split
  · rename_i hg
    rw [hg]
    exact ⟨sz1 (by decide), by simp [rD]⟩
  · exact ⟨⟨g0, log_small g0 (by omega)⟩, ⟨g0, log_small g0 (by omega)⟩, sz1 (by decide), by simp [rD]⟩
theorem small_l {i j : Int} (h1 : -(2 ^ 64) < i) (h2 : i < 2 ^ 64) : CMulA i j := .inl ⟨h1, h2⟩
theorem small_r {i j : Int} (h1 : -(2 ^ 64) < j) (h2 : j < 2 ^ 64) : CMulA i j := .inr (.inl ⟨h1, h2⟩)
theorem plus_eq (n d : Int) (μ : Mm) (h : 1 ≤ d) (hz : d < 2 ^ 90) : F_plus [rD n d, C_HALF] μ = .ok (rD ((n * 2 + 1 * d) / (Nat.gcd (n * 2 + 1 * d).natAbs (d * 2).natAbs : Nat)) (d * 2 / (Nat.gcd (n * 2 + 1 * d).natAbs (d * 2).natAbs : Nat))) μ := by
  refine WP.eq ?_
  refine fn_in (by rfl) ?_
  unfold S_plus C_HALF rD
  walk_at "wp"
  simp only [atI0, atI1]
  walk_at "wp"
  have h2 : ¬ (2 : Int) = 1 := by decide
  simp only [h2]
  have key : WP (F_ratio [.int (n * 2 + 1 * d), .int (d * 2)] μ) (fun d_1 μ1 => d_1 = .tup [.int ((n * 2 + 1 * d) / (Nat.gcd (n * 2 + 1 * d).natAbs (d * 2).natAbs : Nat)), .int (d * 2 / (Nat.gcd (n * 2 + 1 * d).natAbs (d * 2).natAbs : Nat))] ∧ μ1 = μ) (fun _ _ => False) := by
    rw [ratio_eq _ _ _ (by omega) (by omega)]
    exact ⟨rfl, rfl⟩
  have fin := And.intro (small_r (i := n) (j := 2) (by decide) (by decide)) (And.intro (small_l (i := 1) (j := d) (by decide) (by decide)) (And.intro (small_r (i := d) (j := 2) (by decide) (by decide)) key))
  simp only [if_false]
  split <;> exact fin
theorem floor_eq (n d : Int) (μ : Mm) (h : 0 < d) (hz : d < 2 ^ 100) : F_floor_of [rD n d] μ = .ok (.int (n / d)) μ := by
  refine WP.eq ?_
  refine fn_in (by rfl) ?_
  unfold S_floor_of rD
  walk_at "wp"
  simp only [atI0, atI1]
  walk_at "wp"
  exact ⟨⟨h, log_small h hz⟩, by simp⟩
theorem quot_gcd {a b g : Int} (h : 0 < g) (ha : g ∣ a) (hb : g ∣ b) : a / g / (b / g) = a / b := by
  obtain ⟨x, rfl⟩ := ha
  obtain ⟨y, rfl⟩ := hb
  rw [Int.mul_ediv_cancel_left _ (by omega), Int.mul_ediv_cancel_left _ (by omega), Int.mul_ediv_mul_of_pos _ _ h]
/-- the nearest whole number, a half up -/
def nr (n d : Int) : Int := (n * 2 + 1 * d) / (d * 2)
theorem nearest_eq (n d : Int) (μ : Mm) (h : 1 ≤ d) (hz : d < 2 ^ 90) : F_nearest [rD n d] μ = .ok (rD (nr n d) 1) μ := by
  refine WP.eq ?_
  refine fn_in (by rfl) ?_
  unfold S_nearest
  walk_at "wp"
  rw [plus_eq n d μ h hz]
  obtain ⟨g0, g1, g2, g3⟩ := gcd_facts (n * 2 + 1 * d) (d * 2) (by omega)
  simp only [w_ok]
  have e1 : 0 < d * 2 / (Nat.gcd (n * 2 + 1 * d).natAbs (d * 2).natAbs : Nat) := Int.ediv_pos_of_pos_of_dvd (by omega) (by omega) g2
  have e2 : d * 2 / (Nat.gcd (n * 2 + 1 * d).natAbs (d * 2).natAbs : Nat) ≤ d * 2 := Int.ediv_le_self _ (by omega)
  rw [floor_eq _ _ _ e1 (by omega)]
  simp only [w_ok]
  refine ⟨sz1 (by decide), ?_, trivial⟩
  unfold rD nr
  rw [quot_gcd g0 g1 g2]
/-! the law's own helpers -/
theorem gcd_ok {a b : Int} {μ : Mm} {Q : D → Mm → Prop} {X : Exn → Mm → Prop} (hb : 0 < b) (q : ∀ g, 1 ≤ g → g ≤ b → Q (.int g) μ) : WP (F_law_gcd [.int a, .int b] μ) Q X := by
  refine fn_in (by rfl) ?_
  unfold S_law_gcd
  walk_at "wp"
  refine ⟨by decide, ?_⟩
  refine loop_inv (rngL 0 100000) (fun i ρ μ' => ∃ x y z, ρ = [some (.int x), some (.int y), z] ∧ μ' = μ ∧ (i = 0 → 0 < y) ∧ (0 < i → 0 < x ∧ x ≤ b) ∧ 0 ≤ y ∧ y ≤ b) (fun i ρ μ' _ => rngL_it 0 100000 i) ?_ ?_ FUEL 0 _ _ (Nat.zero_le _) (by rw [rngL_len]; have : FUEL = 1000000 := FUEL_eq; simp only [this]; decide) ?_
  · rintro i d ρ μ' hi ⟨x, y, z, rfl, rfl, h0, h1, h2, h3⟩
    refine ⟨_, rfl, ?_⟩
    walk_at "wp"
    split
    · rename_i hy
      have hi2 : 0 < i := by
        rcases Nat.eq_zero_or_pos i with e | e
        · have := h0 e; omega
        · exact e
      exact q x (h1 hi2).1 (h1 hi2).2
    · rename_i hy
      have hy2 : 0 < y := by omega
      refine ⟨hy2, y, x % y, _, rfl, trivial, fun z => by omega, fun _ => ⟨hy2, h3⟩, Int.emod_nonneg _ (by omega), ?_⟩
      have := Int.emod_lt_of_pos x hy2
      omega
  · rintro ρ μ' ⟨x, y, z, rfl, rfl, h0, h1, h2, h3⟩
    rw [rngL_len] at h1
    walk_at "wp"
    exact q x (h1 (by decide)).1 (h1 (by decide)).2
  · refine ⟨_, _, none, rfl, rfl, fun _ => ?_, fun z => absurd z (by decide), ?_, ?_⟩ <;> split <;> omega
theorem r_ok {n d : Int} {μ : Mm} {Q : D → Mm → Prop} {X : Exn → Mm → Prop} (hd : 0 < d) (hz : d < 2 ^ 90) (q : ∀ n' d', n'.natAbs ≤ n.natAbs → 1 ≤ d' → d' ≤ d → Q (rD n' d') μ) : WP (F_law_r [.int n, .int d] μ) Q X := by
  refine fn_in (by rfl) ?_
  unfold S_law_r
  walk_at "wp"
  rw [if_neg (by omega)]
  refine gcd_ok hd fun g g1 g2 => ?_
  walk_at "wp"
  refine ⟨⟨by omega, log_small (by omega) (by omega)⟩, ⟨by omega, log_small (by omega) (by omega)⟩, sz1 (by decide), q (n / g) (d / g) ?_ ?_ (Int.ediv_le_self _ (by omega))⟩
  · exact Int.natAbs_ediv_le_natAbs n g
  · exact Int.le_ediv_of_mul_le (by omega) (by omega)
/-- the store while the law draws: the script's cells, the draw's own list, whatever lies behind -/
def cells (cs : List Int) : O := .lst (cs.map D.int)
def drw (p r s : Int) : O := .lst [.ref 0, .int p, .int r, .int s, .int 3]
def DS (G : Mm) (μ : Mm) : Prop := ∃ cs p r s, 0 ≤ p ∧ 0 ≤ r ∧ μ = cells cs :: drw p r s :: G
theorem atI2 {α : Type} (x y z : α) (l : List α) : atI (x :: y :: z :: l) 2 = some z := by
  have h : atI (x :: y :: z :: l) ((2 : Nat) : Int) = some z := atI_nat rfl
  exact h
theorem atI3 {α : Type} (x y z u : α) (l : List α) : atI (x :: y :: z :: u :: l) 3 = some u := by
  have h : atI (x :: y :: z :: u :: l) ((3 : Nat) : Int) = some u := atI_nat rfl
  exact h
theorem seq0 {l : List D} {G : Mm} : seqOf 0 (.lst l :: G) = some l := rfl
theorem seq1 {a : O} {l : List D} {G : Mm} : seqOf 1 (a :: .lst l :: G) = some l := rfl
theorem cell_at (cs : List Int) (p : Int) (h : 0 ≤ p) (h2 : p < cs.length) : ∃ c, atI (cs.map D.int) p = some (.int c) := by
  obtain ⟨k, rfl⟩ := Int.eq_ofNat_of_zero_le h
  have hk : k < cs.length := by omega
  exact ⟨cs[k], atI_nat (by rw [List.getElem?_map, List.getElem?_eq_getElem hk]; rfl)⟩
theorem ixN51 : ixN 5 1 = some 1 := rfl
theorem ixN52 : ixN 5 2 = some 2 := rfl
theorem ixN53 : ixN 5 3 = some 3 := rfl
local macro_rules | `(tactic| walk_at "wpd") => `(tactic| simp only [wipeD, w_ok, w_ex, w_no, w_ret, w_stop, w_thn, w_var, w_c, w_e1, w_e2, w_anil, w_acons, w_args, w_val, w_cand, w_cor, w_cnot, w_cyes, w_eif, w_eand, w_eor, w_enot, w_mktup, w_mklst, w_add, w_sub, w_mul, w_fdiv, w_mod, w_pow, w_shl, w_neg, w_lt, w_le, w_gt, w_ge, w_is, w_isnt, isNon, w_eqI, w_neI, w_ixT, w_ixR, w_nop, w_seq, w_drop, w_sret, w_sretN, w_sif, w_brk, w_cnt, w_asg, gN, gT, gs, w_par, w_aug, w_put, w_putD, w_augput, w_ixL, w_mt0, w_mt, isTy_lst, w_append, w_reverse, w_lenT, w_lenR, w_abs, w_intI, w_intB, w_gcd, w_tupT, w_tupR, w_listT, w_allR, w_for, w_itT, w_itF, w_itR, w_rng1, w_zipT, w_lc, List.length_cons, List.length_nil, List.map_cons, List.map_nil, List.replicate, List.cons_append, List.nil_append, List.append_nil, List.getElem?_cons_zero, List.getElem?_cons_succ, List.set_cons_zero, List.set_cons_succ, List.getElem?_nil, Nat.reduceAdd, Nat.reduceSub, Nat.zero_add, if_true, if_false, Bool.false_eq_true, decide_eq_true_eq, Bool.not_eq_true', decide_eq_false_iff_not, Nat.sub_self, Bool.not_true, Bool.not_false, Nat.add_one_sub_one, seq0, seq1, atI0, atI1, atI2, atI3, ixN51, ixN52, ixN53, List.length_map])
theorem draw_ok {m : Int} {G μ : Mm} {Q : D → Mm → Prop} {X : Exn → Mm → Prop} (ds : DS G μ) (h1 : 0 < m) (h2 : m < 2 ^ 90) (q : ∀ v μ', 0 ≤ v → v < m → DS G μ' → Q (.int v) μ') : WP (F_law_draw [.ref 1, .int m] μ) Q X := by
  obtain ⟨cs, p, r, s, hp, hr, rfl⟩ := ds
  have hm : 0 < m ∧ m.natAbs.log2 < 9000 := ⟨h1, log_small h1 (by omega)⟩
  have fin : ∀ (y p' r' s' : Int), 0 ≤ p' → 0 ≤ r' → Q (.int (y % m)) (cells cs :: drw p' r' s' :: G) := fun y p' r' s' a b => q _ _ (Int.emod_nonneg _ (by omega)) (Int.emod_lt_of_pos _ h1) ⟨cs, p', r', s', a, b, rfl⟩
  unfold cells drw at fin
  refine fn_in (by rfl) ?_
  unfold S_law_draw cells drw
  walk_at "wpd"
  by_cases hr0 : 0 < r
  · rw [if_pos hr0]
    exact ⟨hm, h1, fin r p (r / m) s hp (Int.ediv_nonneg hr (by omega))⟩
  · rw [if_neg hr0]
    have P : (0 : Int) < 1 * 2 ^ Int.toNat 6000 := by
      rw [Int.one_mul]
      exact Int.pow_pos (by decide)
    have l2 : (0 : Int) < 2 ∧ (Int.natAbs 2).log2 < 9000 := ⟨by decide, log_small (by decide) (by decide)⟩
    have l16 : (0 : Int) < 16 ∧ (Int.natAbs 16).log2 < 9000 := ⟨by decide, log_small (by decide) (by decide)⟩
    have sh : (0 : Int) ≤ 6000 ∧ (6000 : Int) ≤ 1000000 ∧ Int.natAbs 1 < 2 ^ 64 := ⟨by decide, by decide, by decide⟩
    have pw : (0 : Int) ≤ 18 ∧ (18 : Int) ≤ 1000000 ∧ Int.natAbs 10 < 2 ^ 64 := ⟨by decide, by decide, by decide⟩
    by_cases hl : p < cs.length
    · obtain ⟨c, hc⟩ := cell_at cs p hp hl
      simp only [hl, if_true, hc]
      walk_at "wpd"
      refine ⟨small_l (by decide) (by decide), pw, small_l (by decide) (by decide), ?_⟩
      refine L2.ite2 (fun _ => ?_) (fun _ => ?_)
      · exact ⟨l2, sh, P, hm, h1, fin _ _ _ _ (by omega) (Int.ediv_nonneg (Int.emod_nonneg _ (Int.ne_of_gt P)) (by omega))⟩
      · exact ⟨small_r (by decide) (by decide), by decide, small_r (by decide) (by decide), small_r (by decide) (by decide), by decide, l16, h1, fin _ _ _ _ (by omega) hr⟩
    · simp only [hl, if_false]
      refine ⟨pw, small_l (by decide) (by decide), ?_⟩
      split
      · exact ⟨l2, sh, P, hm, h1, fin _ _ _ _ (by omega) (Int.ediv_nonneg (Int.emod_nonneg _ (Int.ne_of_gt P)) (by omega))⟩
      · exact ⟨small_r (by decide) (by decide), by decide, small_r (by decide) (by decide), small_r (by decide) (by decide), by decide, l16, h1, fin _ _ _ _ (by omega) hr⟩
/-! ### the law's data -/
/-- a good edge, a good place -/
def GE (x : D) : Prop := ∃ n d, x = rD n d ∧ 1 ≤ d ∧ d < 2 ^ 60
def GP (p : D) : Prop := p = .non ∨ ∃ l : List D, p = .tup l ∧ l.length = 4 ∧ ∀ x ∈ l, GE x
theorem edge_ok {es : List D} {G μ : Mm} {Q : D → Mm → Prop} {X : Exn → Mm → Prop} (ds : DS (.lst es :: G) μ) (he : ∀ x ∈ es, GE x) (hl : es.length < 1000) (q : ∀ x μ', GE x → DS (.lst es :: G) μ' → Q x μ') : WP (F_law_edge [.ref 1, .ref 2] μ) Q X := by
  refine fn_in (by rfl) ?_
  unfold S_law_edge
  walk_at "wp"
  refine draw_ok ds (by decide) (by decide) fun way μ1 w0 w1 d1 => ?_
  refine draw_ok d1 (by decide) (by decide) fun sg μ2 s0 s1 d2 => ?_
  have c2 : ∀ {x : Int}, CMulA 2 x := small_l (by decide) (by decide)
  have p9 : (0 : Int) ≤ 9 ∧ (9 : Int) ≤ 1000000 ∧ Int.natAbs 10 < 2 ^ 64 := ⟨by decide, by decide, by decide⟩
  have p12 : (0 : Int) ≤ 12 ∧ (12 : Int) ≤ 1000000 ∧ Int.natAbs 10 < 2 ^ 64 := ⟨by decide, by decide, by decide⟩
  have csg : ∀ {x : Int}, CMulA (1 - 2 * sg) x := small_l (by omega) (by omega)
  have q3 : ∀ {n d : Int} {μ : Mm}, DS (.lst es :: G) μ → 0 < d → d < 2 ^ 60 → WP (F_law_r [.int n, .int d] μ) (fun d μ1 => Q d μ1) (fun _ _ => False) := fun dd h1 h2 => r_ok h1 (by omega) fun n' d' _ a b => q _ _ ⟨n', d', rfl, a, by omega⟩ dd
  have hseq : seqOf 2 μ2 = some es := by
    obtain ⟨cs, p, r, s, _, _, rfl⟩ := d2
    rfl
  walk_at "wp"
  refine ⟨c2, ?_⟩
  simp only [hseq]
  have pk : 0 < (es.length : Int) → WP (F_law_pick [.ref 1, .ref 2] μ2) (fun d μ1 => Q d μ1) (fun _ _ => False) := fun h0 => by
    refine fn_in (by rfl) ?_
    unfold S_law_pick
    walk_at "wp"
    simp only [hseq]
    refine draw_ok d2 h0 (by omega) fun v μ3 v0 v1 d3 => ?_
    walk_at "wp"
    have hseq3 : seqOf 2 μ3 = some es := by
      obtain ⟨cs, p, r, s, _, _, rfl⟩ := d3
      rfl
    obtain ⟨k, rfl⟩ := Int.eq_ofNat_of_zero_le v0
    have hk : k < es.length := by omega
    simp only [hseq3, atI_nat (List.getElem?_eq_getElem hk)]
    exact q _ _ (he _ (List.getElem_mem hk)) d3
  refine L2.ite2 (fun _ => L2.ite2 (fun h0 => pk h0) (fun _ => ?_)) (fun _ => ?_)
  all_goals
    refine L2.ite2 (fun _ => ?_) (fun _ => L2.ite2 (fun _ => ?_) (fun _ => L2.ite2 (fun _ => ?_) (fun _ => L2.ite2 (fun _ => ?_) (fun _ => ?_))))
    · refine draw_ok d2 (by decide) (by decide) fun v μ3 v0 v1 d3 => ?_
      walk_at "wp"
      exact ⟨c2, csg, q3 d3 (by decide) (by decide)⟩
    · refine draw_ok d2 (by decide) (by decide) fun v μ3 v0 v1 d3 => ?_
      walk_at "wp"
      exact ⟨csg, sz1 (by decide), q _ _ ⟨_, 1, rfl, by decide, by decide⟩ d3⟩
    · refine draw_ok d2 (by decide) (by decide) fun v μ3 v0 v1 d3 => ?_
      walk_at "wp"
      refine draw_ok d3 (by decide) (by decide) fun v2 μ4 v20 v21 d4 => ?_
      walk_at "wp"
      refine ⟨c2, csg, small_r (by omega) (by omega), ?_⟩
      refine draw_ok d4 (by decide) (by decide) fun v3 μ5 v30 v31 d5 => ?_
      walk_at "wp"
      exact ⟨c2, q3 d5 (by omega) (by omega)⟩
    · refine ⟨p9, ?_⟩
      refine draw_ok d2 (by decide) (by decide) fun v μ3 v0 v1 d3 => ?_
      walk_at "wp"
      refine ⟨csg, p12, small_r (by decide) (by decide), p9, ?_⟩
      refine draw_ok d3 (by decide) (by decide) fun v2 μ4 v20 v21 d4 => ?_
      walk_at "wp"
      refine ⟨p9, ?_⟩
      refine draw_ok d4 (by decide) (by decide) fun v3 μ5 v30 v31 d5 => ?_
      walk_at "wp"
      have hp : (10 : Int) ^ Int.toNat 9 = 1000000000 := by decide
      rw [hp] at v31
      exact q3 d5 (by omega) (by omega)
    · refine draw_ok d2 (by decide) (by decide) fun v μ3 v0 v1 d3 => ?_
      walk_at "wp"
      refine ⟨csg, ?_⟩
      refine draw_ok d3 (by decide) (by decide) fun v2 μ4 v20 v21 d4 => ?_
      walk_at "wp"
      exact q3 d4 (by omega) (by omega)
theorem ds_len {G μ : Mm} (h : DS G μ) : μ.length = G.length + 2 := by
  obtain ⟨cs, p, r, s, _, _, rfl⟩ := h
  rfl
theorem ds_seq {G μ : Mm} (h : DS G μ) (k : Nat) : seqOf (k + 2) μ = seqOf k G := by
  obtain ⟨cs, p, r, s, _, _, rfl⟩ := h
  rfl
theorem ds_set {G μ : Mm} (h : DS G μ) (k : Nat) (o : O) : DS (G.set k o) (μ.set (k + 2) o) := by
  obtain ⟨cs, p, r, s, a, b, rfl⟩ := h
  exact ⟨cs, p, r, s, a, b, rfl⟩
theorem ds_app {G μ : Mm} (h : DS G μ) (o : O) : DS (G ++ [o]) (μ ++ [o]) := by
  obtain ⟨cs, p, r, s, a, b, rfl⟩ := h
  exact ⟨cs, p, r, s, a, b, rfl⟩
theorem seq_last (G : Mm) (l : List D) : seqOf G.length (G ++ [.lst l]) = some l := by
  unfold seqOf
  rw [List.getElem?_append_right (Nat.le_refl _), Nat.sub_self]
  rfl
theorem set_last (G : Mm) (a b : O) : (G ++ [a]).set G.length b = G ++ [b] := by
  rw [List.set_append_right _ _ (Nat.le_refl _), Nat.sub_self]
  rfl
theorem layout_ok {μ : Mm} {Q : D → Mm → Prop} {X : Exn → Mm → Prop} (ds : DS [] μ) (q : ∀ ts μ', (∀ p ∈ ts, GP p) → ts.length ≤ 6 → Q (.tup ts) μ') : WP (F_law_layout [.ref 1] μ) Q X := by
  refine fn_in (by rfl) ?_
  unfold S_law_layout
  have l0 : μ.length = 2 := ds_len ds
  walk_at "wp"
  refine ⟨sz1 (by decide), sz1 (by decide), ?_⟩
  have d1 : DS [.lst [], .lst []] (μ ++ [.lst []] ++ [.lst []]) := ds_app (ds_app ds _) _
  refine draw_ok d1 (by decide) (by decide) fun v μ1 v0 v1 d2 => ?_
  have hr : okR (1 + v) = true := by
    unfold okR
    rw [decide_eq_true (show (-(2 ^ 62) : Int) ≤ 1 + v by omega), decide_eq_true (show (1 + v : Int) < 2 ^ 62 by omega)]
    rfl
  walk_at "wp"
  refine ⟨hr, ?_⟩
  simp only [List.length_append, l0, List.length_cons, List.length_nil, Nat.reduceAdd]
  refine loop_inv (rngL 0 (1 + v).toNat) (fun i ρ μ' => ∃ es ts G x3 x4 x5 x6, ρ = [some (.ref 1), some (.ref 2), some (.ref 3), x3, x4, x5, x6] ∧ DS (.lst es :: .lst ts :: G) μ' ∧ (∀ x ∈ es, GE x) ∧ es.length ≤ 4 * i ∧ (∀ p ∈ ts, GP p) ∧ ts.length = i) (fun i ρ μ' _ => rngL_it 0 _ i) ?_ ?_ FUEL 0 _ _ (Nat.zero_le _) (by rw [rngL_len]; have : FUEL = 1000000 := FUEL_eq; omega) ?_
  · rintro i d ρ μ' hi ⟨es, ts, G, x3, x4, x5, x6, rfl, ds, h1, h2, h3, h4⟩
    have hi6 : i < 6 := by
      have := (List.getElem?_eq_some_iff.mp hi).1
      rw [rngL_len] at this
      omega
    refine ⟨_, rfl, ?_⟩
    walk_at "wp"
    refine draw_ok ds (by decide) (by decide) fun w μ2 w0 w1 ds => ?_
    walk_at "wp"
    have s3 : seqOf 3 μ2 = some ts := ds_seq ds 1
    refine L2.ite2 (fun _ => ?_) (fun _ => ?_)
    · simp only [s3]
      refine ⟨rfl, Nat.lt_of_le_of_lt (show ts.length ≤ 1000 by omega) (by decide), es, ts ++ [D.non], G, _, _, _, _, rfl, ds_set ds 1 (.lst (ts ++ [D.non])), h1, by omega, fun p hp => ?_, by simp [h4]⟩
      rcases List.mem_append.mp hp with hp | hp
      · exact h3 p hp
      · exact .inl (by simpa using hp)
    · have ln : μ2.length = G.length + 4 := by rw [ds_len ds]; simp
      refine ⟨sz1 (by decide), by decide, ?_⟩
      have d5 : DS (.lst es :: .lst ts :: (G ++ [.lst []])) (μ2 ++ [.lst []]) := ds_app ds _
      rw [ln]
      refine loop_inv (rngL 0 (Int.toNat 4)) (fun j ρ μ' => ∃ es ps x3 x5 x6, ρ = [some (.ref 1), some (.ref 2), some (.ref 3), x3, some (.ref (G.length + 4)), x5, x6] ∧ DS (.lst es :: .lst ts :: (G ++ [.lst ps])) μ' ∧ (∀ x ∈ es, GE x) ∧ es.length ≤ 4 * i + j ∧ (∀ x ∈ ps, GE x) ∧ ps.length = j) (fun j ρ μ' _ => rngL_it 0 _ j) ?_ ?_ FUEL 0 _ _ (Nat.zero_le _) (by rw [rngL_len]; have : FUEL = 1000000 := FUEL_eq; simp only [this]; decide) ?_
      · rintro j d ρ μ' hj ⟨es, ps, x3, x5, x6, rfl, ds, h1, h2, h5, h6⟩
        have hj4 : j < 4 := by
          have := (List.getElem?_eq_some_iff.mp hj).1
          rw [rngL_len] at this
          exact this
        refine ⟨_, rfl, ?_⟩
        walk_at "wp"
        refine edge_ok ds h1 (by omega) fun x μ3 gx ds => ?_
        have s2 : seqOf 2 μ3 = some es := ds_seq ds 0
        simp only [s2]
        have ds2 : DS (.lst (es ++ [x]) :: .lst ts :: (G ++ [.lst ps])) (μ3.set 2 (.lst (es ++ [x]))) := ds_set ds 0 _
        have s4 : seqOf (G.length + 4) (μ3.set 2 (.lst (es ++ [x]))) = some ps := (ds_seq ds2 (G.length + 2)).trans (seq_last G ps)
        simp only [s4]
        have ds3 : DS (.lst (es ++ [x]) :: .lst ts :: (G ++ [.lst (ps ++ [x])])) ((μ3.set 2 (.lst (es ++ [x]))).set (G.length + 4) (.lst (ps ++ [x]))) := by
          have := ds_set ds2 (G.length + 2) (.lst (ps ++ [x]))
          rw [show (O.lst (es ++ [x]) :: O.lst ts :: (G ++ [O.lst ps])).set (G.length + 2) (.lst (ps ++ [x])) = O.lst (es ++ [x]) :: O.lst ts :: (G ++ [O.lst (ps ++ [x])]) from congrArg (fun z => O.lst (es ++ [x]) :: O.lst ts :: z) (set_last G _ _)] at this
          exact this
        refine ⟨rfl, Nat.lt_of_le_of_lt (show es.length ≤ 1000 by omega) (by decide), rfl, Nat.lt_of_le_of_lt (show ps.length ≤ 1000 by omega) (by decide), es ++ [x], ps ++ [x], _, _, _, rfl, ds3, fun y hy => ?_, by simp; omega, fun y hy => ?_, by simp [h6]⟩
        · rcases List.mem_append.mp hy with hy | hy
          · exact h1 y hy
          · rw [List.mem_singleton.mp hy]; exact gx
        · rcases List.mem_append.mp hy with hy | hy
          · exact h5 y hy
          · rw [List.mem_singleton.mp hy]; exact gx
      · rintro ρ μ' ⟨es, ps, x3, x5, x6, rfl, ds, h1, h2, h5, h6⟩
        rw [rngL_len] at h2 h6
        walk_at "wp"
        have s3 : seqOf 3 μ' = some ts := ds_seq ds 1
        have s4 : seqOf (G.length + 4) μ' = some ps := (ds_seq ds (G.length + 2)).trans (seq_last G ps)
        simp only [s3, s4]
        refine ⟨rfl, Nat.lt_of_le_of_lt (show ts.length ≤ 1000 by omega) (by decide), es, ts ++ [D.tup ps], G ++ [O.lst ps], _, _, _, _, rfl, ds_set ds 1 (.lst (ts ++ [D.tup ps])), h1, by have : Int.toNat 4 = 4 := rfl; omega, fun p hp => ?_, by simp [h4]⟩
        rcases List.mem_append.mp hp with hp | hp
        · exact h3 p hp
        · rw [List.mem_singleton.mp hp]
          exact .inr ⟨ps, rfl, h6, h5⟩
      · exact ⟨es, [], _, _, _, rfl, d5, h1, by omega, by simp, rfl⟩
  · rintro ρ μ' ⟨es, ts, G, x3, x4, x5, x6, rfl, ds, h1, h2, h3, h4⟩
    rw [rngL_len] at h4
    have s3 : seqOf 3 μ' = some ts := ds_seq ds 1
    walk_at "wp"
    simp only [s3]
    exact q ts μ' h3 (by omega)
  · exact ⟨[], [], [], _, _, _, _, rfl, d2, by simp, Nat.zero_le _, by simp, rfl⟩
end G
namespace G
open PySem PySem.Spec PyProof.Rows L2 ML
local macro_rules | `(tactic| walk_at "wp") => `(tactic| simp only [wipeD, w_ok, w_ex, w_no, w_ret, w_stop, w_thn, w_var, w_c, w_e1, w_e2, w_anil, w_acons, w_args, w_val, w_cand, w_cor, w_cnot, w_cyes, w_eif, w_eand, w_eor, w_enot, w_mktup, w_mklst, w_add, w_sub, w_mul, w_fdiv, w_mod, w_pow, w_shl, w_neg, w_lt, w_le, w_gt, w_ge, w_is, w_isnt, isNon, w_eqI, w_neI, w_ixT, w_ixR, w_nop, w_seq, w_drop, w_sret, w_sretN, w_sif, w_brk, w_cnt, w_asg, gN, gT, gs, w_par, w_aug, w_put, w_putD, w_augput, w_ixL, w_mt0, w_mt, isTy_lst, w_append, w_reverse, w_lenT, w_lenR, w_abs, w_intI, w_intB, w_gcd, w_tupT, w_tupR, w_listT, w_allR, w_for, w_itT, w_itF, w_itR, w_rng1, w_zipT, w_lc, List.length_cons, List.length_nil, List.map_cons, List.map_nil, List.replicate, List.cons_append, List.nil_append, List.append_nil, List.getElem?_cons_zero, List.getElem?_cons_succ, List.set_cons_zero, List.set_cons_succ, List.getElem?_nil, Nat.reduceAdd, Nat.reduceSub, Nat.zero_add, if_true, if_false, Bool.false_eq_true, decide_eq_true_eq, Bool.not_eq_true', decide_eq_false_iff_not, Nat.sub_self, Bool.not_true, Bool.not_false, Nat.add_one_sub_one])
/-! ### snapped -/
def nrD : D → D
  | .tup [.int n, .int d] => rD (nr n d) 1
  | x => x
def snD : D → D
  | .tup l => .tup (l.map nrD)
  | x => x
theorem nr_one (m : Int) : nr m 1 = m := by
  unfold nr
  omega
theorem ge_nr {x : D} (h : GE x) : ∃ m, nrD x = rD m 1 := by
  obtain ⟨n, d, rfl, _, _⟩ := h
  exact ⟨nr n d, rfl⟩
theorem ge_nrD {x : D} (h : GE x) : GE (nrD x) := by
  obtain ⟨m, e⟩ := ge_nr h
  exact ⟨m, 1, e, by decide, by decide⟩
theorem nr_nr {x : D} (h : GE x) : nrD (nrD x) = nrD x := by
  obtain ⟨m, e⟩ := ge_nr h
  rw [e]
  show rD (nr m 1) 1 = rD m 1
  rw [nr_one]
theorem gp_sn {p : D} (h : GP p) : GP (snD p) := by
  rcases h with rfl | ⟨l, rfl, hl, hg⟩
  · exact .inl rfl
  · refine .inr ⟨l.map nrD, rfl, by rw [List.length_map]; exact hl, fun x hx => ?_⟩
    obtain ⟨y, hy, rfl⟩ := List.mem_map.mp hx
    exact ge_nrD (hg y hy)
theorem sn_sn {p : D} (h : GP p) : snD (snD p) = snD p := by
  rcases h with rfl | ⟨l, rfl, hl, hg⟩
  · rfl
  · show D.tup ((l.map nrD).map nrD) = D.tup (l.map nrD)
    rw [List.map_map]
    congr 1
    exact List.map_congr_left fun x hx => nr_nr (hg x hx)
theorem take_succ' {α β : Type} {l : List α} {i : Nat} {x : α} (f : α → β) (h : l[i]? = some x) : (l.take (i + 1)).map f = (l.take i).map f ++ [f x] := by
  rw [List.take_add_one, h, List.map_append]
  rfl
theorem seq_at {μ : Mm} {l : List D} {G : Mm} : seqOf μ.length (μ ++ .lst l :: G) = some l := by
  unfold seqOf
  rw [List.getElem?_append_right (Nat.le_refl _), Nat.sub_self]
  rfl
theorem set_at {μ : Mm} {a b : O} {G : Mm} : (μ ++ a :: G).set μ.length b = μ ++ b :: G := by
  rw [List.set_append_right _ _ (Nat.le_refl _), Nat.sub_self]
  rfl
/-- a comprehension of a def over a tuple, an item each: the new list, behind whatever was laid -/
theorem lc_map {l : List D} {f : D → D} {e : EM} {ρ : En} {μ : Mm} {k : Nat} (hz : l.length ≤ 100000) (he : ∀ x ∈ l, ∀ G, e (ρ.set k (some x)) (μ ++ G) = .ok (f x) (μ ++ G)) :
    lcLoop (itT l) (gN k) cYes e μ.length ρ FUEL 0 (μ ++ [.lst []]) = .ok () (μ ++ [.lst (l.map f)]) := by
  obtain ⟨μ1, e1, e2⟩ := lc_inv (it := itT l) (g := gN k) (c := cYes) (e := e) (n := μ.length) (ρ0 := ρ) l (fun i μ' => μ' = μ ++ [.lst ((l.take i).map f)]) (fun μ' => μ' = μ ++ [.lst (l.map f)]) (fun i μ' _ => rfl) (fun i d μ' hi hp => by
      subst hp
      refine ⟨_, rfl, ?_⟩
      rw [w_cyes]
      simp only [if_true]
      rw [he d (List.mem_of_getElem? hi), w_ok, seq_at]
      have hl := (List.getElem?_eq_some_iff.mp hi).1
      refine ⟨Nat.lt_of_le_of_lt (show ((l.take i).map f).length ≤ 100000 by rw [List.length_map, List.length_take]; omega) (by decide), ?_⟩
      rw [set_at, take_succ' f hi]) (fun μ' hp => by rw [hp, List.take_length]) FUEL 0 (μ ++ [.lst []]) (Nat.zero_le _) (by have : FUEL = 1000000 := FUEL_eq; omega) rfl
  rw [e1, e2]
theorem snapped_ok {ps : List D} {μ : Mm} {Q : D → Mm → Prop} {X : Exn → Mm → Prop} (hp : ∀ p ∈ ps, GP p) (hl : ps.length ≤ 6) (q : ∀ G, Q (.tup (ps.map snD)) (μ ++ G)) : WP (F_snapped [.tup ps] μ) Q X := by
  refine fn_in (by rfl) ?_
  unfold S_snapped
  walk_at "wp"
  refine ⟨sz1 (by decide), ?_⟩
  refine loop_inv ps (fun i ρ μ' => ∃ G x2 x3, ρ = [some (.tup ps), some (.ref μ.length), x2, x3] ∧ μ' = μ ++ .lst ((ps.take i).map snD) :: G) (fun i ρ μ' _ => rfl) ?_ ?_ FUEL 0 _ _ (Nat.zero_le _) (by have : FUEL = 1000000 := FUEL_eq; omega) ?_
  · rintro i d ρ μ' hi ⟨G, x2, x3, rfl, rfl⟩
    have hil := (List.getElem?_eq_some_iff.mp hi).1
    have hsz : ((ps.take i).map snD).length < sizeLine := Nat.lt_of_le_of_lt (show _ ≤ 1000 by rw [List.length_map, List.length_take]; omega) (by decide)
    refine ⟨_, rfl, ?_⟩
    rcases hp d (List.mem_of_getElem? hi) with rfl | ⟨l, rfl, hl4, hg⟩
    · walk_at "wp"
      simp only [seq_at, set_at]
      refine ⟨rfl, hsz, G, _, _, rfl, ?_⟩
      rw [take_succ' snD hi]
      rfl
    · walk_at "wp"
      simp only [seq_at]
      refine ⟨rfl, _, lc_map (f := nrD) (by omega) (fun x hx G' => ?_), ?_⟩
      · obtain ⟨n, dd, rfl, h1, h2⟩ := hg x hx
        refine WP.eq ?_
        walk_at "wp"
        rw [nearest_eq n dd _ h1 (by omega)]
        exact ⟨rfl, rfl⟩
      · rw [seq_last, List.append_assoc]
        walk_at "wp"
        simp only [seq_at, set_at]
        refine ⟨hsz, G ++ [.lst (l.map nrD)], _, _, rfl, ?_⟩
        rw [take_succ' snD hi]
        rfl
  · rintro ρ μ' ⟨G, x2, x3, rfl, rfl⟩
    walk_at "wp"
    simp only [seq_at, List.take_length]
    exact q _
  · exact ⟨[], none, none, rfl, rfl⟩
/-! ### the law's looks -/
theorem k_tt : kitB "tuple" "tuple" = some true := by decide +kernel
theorem k_ii : kitB "int" "int" = some true := by decide +kernel
theorem k_ib : kitB "int" "bool" = some false := by decide +kernel
theorem isint_ok {i : Int} {μ : Mm} : F_law_is_int [.int i] μ = .ok (.bl true) μ := by
  refine WP.eq ?_
  refine fn_in (by rfl) ?_
  unfold S_law_is_int
  walk_at "wp"
  rw [w_isi (T := "int") rfl k_ii]
  walk_at "wp"
  rw [w_isi (T := "int") rfl k_ib]
  walk_at "wp"
  exact ⟨trivial, trivial⟩
theorem isr_ok {m : Int} {μ : Mm} : F_law_is_r [rD m 1] μ = .ok (.bl true) μ := by
  refine WP.eq ?_
  refine fn_in (by rfl) ?_
  unfold S_law_is_r rD
  walk_at "wp"
  rw [w_isi (T := "tuple") rfl k_tt]
  walk_at "wp"
  have e1 : ¬ ¬ ((2 : Nat) : Int) = 2 := by decide
  simp only [List.length_cons, List.length_nil, atI0, atI1, Nat.reduceAdd, Nat.zero_add, isint_ok]
  walk_at "wp"
  have e2 : ¬ ¬ (((0 + 1 + 1 : Nat)) : Int) = 2 := by decide
  have e3 : ¬ (1 : Int) < 1 := by decide
  simp only [e1, e2, e3, if_false]
  refine gcd_ok (by decide) fun g g1 g2 => ?_
  walk_at "wp"
  have : g = 1 := by omega
  simp [this]
theorem near_ok {n d : Int} {μ : Mm} (h : 1 ≤ d) (hz : d < 2 ^ 60) : F_law_near [rD n d, rD (nr n d) 1] μ = .ok (.bl true) μ := by
  refine WP.eq ?_
  refine fn_in (by rfl) ?_
  unfold S_law_near
  walk_at "wp"
  rw [isr_ok]
  unfold rD
  walk_at "wp"
  simp only [atI0, atI1]
  walk_at "wp"
  have e1 : ¬ ¬ (1 : Int) = 1 := by decide
  have key : -d < 2 * (nr n d * d - n) ∧ 2 * (nr n d * d - n) ≤ d := by
    have hp : 0 < d * 2 := by omega
    have a1 : nr n d * (d * 2) ≤ n * 2 + 1 * d := Int.ediv_mul_le _ (by omega)
    have a2 : n * 2 + 1 * d < (nr n d + 1) * (d * 2) := Int.lt_ediv_add_one_mul_self _ hp
    have a3 : nr n d * (d * 2) = 2 * (nr n d * d) := by rw [← Int.mul_assoc, Int.mul_comm]
    have a4 : (nr n d + 1) * (d * 2) = 2 * (nr n d * d) + d * 2 := by rw [Int.add_mul, a3, Int.one_mul]
    rw [a3] at a1
    rw [a4] at a2
    omega
  simp only [e1, if_false, key.1, key.2, if_true]
  refine ⟨small_r (by omega) (by omega), small_l (by decide) (by decide), by simp⟩
theorem nr_mono {n1 d1 n2 d2 : Int} (h1 : 1 ≤ d1) (h2 : 1 ≤ d2) (h : n1 * d2 < n2 * d1) : nr n1 d1 ≤ nr n2 d2 := by
  have a1 : nr n1 d1 * (d1 * 2) ≤ n1 * 2 + 1 * d1 := Int.ediv_mul_le _ (by omega)
  refine (Int.le_ediv_iff_mul_le (by omega)).mpr ?_
  have b : d1 * (nr n1 d1 * (d2 * 2)) ≤ d1 * (n2 * 2 + 1 * d2) := by
    have c1 : d1 * (nr n1 d1 * (d2 * 2)) = d2 * (nr n1 d1 * (d1 * 2)) := by
      rw [Int.mul_left_comm, Int.mul_left_comm d2, ← Int.mul_assoc d1, ← Int.mul_assoc d2, Int.mul_comm d1 d2]
    have c2 : d2 * (nr n1 d1 * (d1 * 2)) ≤ d2 * (n1 * 2 + 1 * d1) := Int.mul_le_mul_of_nonneg_left a1 (by omega)
    have c3 : d2 * (n1 * 2 + 1 * d1) = 2 * (n1 * d2) + d1 * d2 := by
      rw [Int.mul_add, Int.one_mul, Int.mul_comm d2 (n1 * 2), Int.mul_assoc, Int.mul_comm n1 (2 * d2), Int.mul_assoc, Int.mul_comm d2 n1, Int.mul_comm d2 d1]
    have c4 : d1 * (n2 * 2 + 1 * d2) = 2 * (n2 * d1) + d1 * d2 := by
      rw [Int.mul_add, Int.one_mul, Int.mul_comm d1 (n2 * 2), Int.mul_assoc, Int.mul_comm n2 (2 * d1), Int.mul_assoc, Int.mul_comm d1 n2]
    rw [c1, c4]
    rw [c3] at c2
    omega
  exact Int.le_of_mul_le_mul_left b (by omega)
/-- the edges of all shown boxes, in order -/
def esOf : List D → List D
  | [] => []
  | .tup l :: r => l ++ esOf r
  | _ :: r => esOf r
def prD (e : D) : D := .tup [e, nrD e]
theorem esOf_take {ps : List D} {i : Nat} {p : D} (h : ps[i]? = some p) : esOf (ps.take (i + 1)) = esOf (ps.take i) ++ esOf [p] := by
  have app : ∀ a b : List D, esOf (a ++ b) = esOf a ++ esOf b := by
    intro a b
    induction a with
    | nil => rfl
    | cons x r ih =>
      cases x <;> simp [esOf, ih]
  rw [List.take_add_one, h, app]
  rfl
theorem zip_map (f : D → D) : ∀ l : List D, zipL l (l.map f) = l.map fun x => .tup [x, f x]
  | [] => rfl
  | x :: l => by
    show D.tup [x, f x] :: zipL l (l.map f) = _
    rw [zip_map f l]
    rfl
theorem esOf_len {ps : List D} (h : ∀ p ∈ ps, GP p) : (esOf ps).length ≤ 4 * ps.length := by
  induction ps with
  | nil => simp [esOf]
  | cons p r ih =>
    have h2 := ih fun x hx => h x (List.mem_cons_of_mem _ hx)
    rcases h p List.mem_cons_self with rfl | ⟨l, rfl, hl, _⟩
    · show (esOf r).length ≤ _
      rw [List.length_cons]; omega
    · show (l ++ esOf r).length ≤ _
      rw [List.length_append, List.length_cons]; omega
theorem esOf_good {ps : List D} (h : ∀ p ∈ ps, GP p) : ∀ e ∈ esOf ps, GE e := by
  induction ps with
  | nil => intro e he; cases he
  | cons p r ih =>
    have h2 := ih fun x hx => h x (List.mem_cons_of_mem _ hx)
    rcases h p List.mem_cons_self with rfl | ⟨l, rfl, hl, hg⟩
    · exact h2
    · intro e he
      have he : e ∈ l ++ esOf r := he
      rcases List.mem_append.mp he with he | he
      · exact hg e he
      · exact h2 e he
theorem pairs_ok {ps : List D} {μ : Mm} {Q : D → Mm → Prop} {X : Exn → Mm → Prop} (hp : ∀ p ∈ ps, GP p) (hl : ps.length ≤ 6) (q : Q (.ref μ.length) (μ ++ [.lst ((esOf ps).map prD)])) : WP (F_law_pairs [.tup ps, .tup (ps.map snD)] μ) Q X := by
  refine fn_in (by rfl) ?_
  unfold S_law_pairs
  walk_at "wp"
  rw [w_isi (T := "tuple") rfl k_tt]
  walk_at "wp"
  simp only [List.length_map, not_true, if_false]
  refine ⟨sz1 (by decide), ?_⟩
  refine loop_inv (zipL ps (ps.map snD)) (fun i ρ μ' => ∃ x3 x4 x5 x6, ρ = [some (.tup ps), some (.tup (ps.map snD)), some (.ref μ.length), x3, x4, x5, x6] ∧ μ' = μ ++ [.lst ((esOf (ps.take i)).map prD)]) (fun i ρ μ' _ => zipL_it _ _ _) ?_ ?_ FUEL 0 _ _ (Nat.zero_le _) (by rw [zipL_len _ _ (by simp)]; have : FUEL = 1000000 := FUEL_eq; omega) ?_
  · rintro i d ρ μ' hi ⟨x3, x4, x5, x6, rfl, rfl⟩
    rw [zip_map] at hi
    rw [List.getElem?_map] at hi
    cases hp1 : ps[i]? with
    | none => rw [hp1] at hi; cases hi
    | some p =>
      rw [hp1] at hi
      have hd : D.tup [p, snD p] = d := by simpa using hi
      subst hd
      refine ⟨_, rfl, ?_⟩
      have hes := esOf_take hp1
      rcases hp p (List.mem_of_getElem? hp1) with rfl | ⟨l, rfl, hl4, hg⟩
      · walk_at "wp"
        refine ⟨_, _, _, _, rfl, ?_⟩
        rw [hes]
        show _ = μ ++ [.lst ((esOf (ps.take i) ++ []).map prD)]
        rw [List.append_nil]
      · walk_at "wp"
        simp only [snD]
        rw [w_isi (T := "tuple") rfl k_tt]
        walk_at "wp"
        have e4 : ((l.map nrD).length : Int) = 4 := by rw [List.length_map, hl4]; rfl
        simp only [e4, not_true, if_false]
        refine loop_inv (zipL l (l.map nrD)) (fun j ρ μ' => ∃ x5 x6, ρ = [some (.tup ps), some (.tup (ps.map snD)), some (.ref μ.length), some (.tup l), some (.tup (l.map nrD)), x5, x6] ∧ μ' = μ ++ [.lst ((esOf (ps.take i)).map prD ++ (l.take j).map prD)]) (fun i ρ μ' _ => zipL_it _ _ _) ?_ ?_ FUEL 0 _ _ (Nat.zero_le _) (by rw [zipL_len _ _ (by simp)]; have : FUEL = 1000000 := FUEL_eq; omega) ?_
        · rintro j d ρ μ' hj ⟨x5, x6, rfl, rfl⟩
          rw [zip_map, List.getElem?_map] at hj
          cases hj1 : l[j]? with
          | none => rw [hj1] at hj; cases hj
          | some e =>
            rw [hj1] at hj
            have hd : D.tup [e, nrD e] = d := by simpa using hj
            subst hd
            refine ⟨_, rfl, ?_⟩
            walk_at "wp"
            simp only [seq_last, set_last]
            have hps : (esOf (ps.take i)).length ≤ 4 * 6 := by
              have := esOf_len (ps := ps.take i) fun p hp' => hp p (List.mem_of_mem_take hp')
              rw [List.length_take] at this
              omega
            refine ⟨rfl, sz1 (by decide), Nat.lt_of_le_of_lt (show _ ≤ 1000 by rw [List.length_append, List.length_map, List.length_map, List.length_take]; omega) (by decide), _, _, rfl, ?_⟩
            rw [take_succ' prD hj1, List.append_assoc]
            rfl
        · rintro ρ μ' ⟨x5, x6, rfl, rfl⟩
          rw [zipL_len _ _ (by simp), List.take_length, ← List.map_append]
          refine ⟨_, _, _, _, rfl, ?_⟩
          rw [hes]
          show _ = μ ++ [.lst ((esOf (ps.take i) ++ (l ++ [])).map prD)]
          rw [List.append_nil]
        · exact ⟨_, _, rfl, by simp⟩
  · rintro ρ μ' ⟨x3, x4, x5, x6, rfl, rfl⟩
    rw [zipL_len _ _ (by simp), List.take_length]
    walk_at "wp"
    exact q
  · exact ⟨none, none, none, none, rfl, rfl⟩
end G
namespace G
open PySem PySem.Spec PyProof.Rows L2 ML
local macro_rules | `(tactic| walk_at "wp") => `(tactic| simp only [wipeD, w_ok, w_ex, w_no, w_ret, w_stop, w_thn, w_var, w_c, w_e1, w_e2, w_anil, w_acons, w_args, w_val, w_cand, w_cor, w_cnot, w_cyes, w_eif, w_eand, w_eor, w_enot, w_mktup, w_mklst, w_add, w_sub, w_mul, w_fdiv, w_mod, w_pow, w_shl, w_neg, w_lt, w_le, w_gt, w_ge, w_is, w_isnt, isNon, w_eqI, w_neI, w_ixT, w_ixR, w_nop, w_seq, w_drop, w_sret, w_sretN, w_sif, w_brk, w_cnt, w_asg, gN, gT, gs, w_par, w_aug, w_put, w_putD, w_augput, w_ixL, w_mt0, w_mt, isTy_lst, w_append, w_reverse, w_lenT, w_lenR, w_abs, w_intI, w_intB, w_gcd, w_tupT, w_tupR, w_listT, w_allR, w_for, w_itT, w_itF, w_itR, w_rng1, w_zipT, w_lc, List.length_cons, List.length_nil, List.map_cons, List.map_nil, List.replicate, List.cons_append, List.nil_append, List.append_nil, List.getElem?_cons_zero, List.getElem?_cons_succ, List.set_cons_zero, List.set_cons_succ, List.getElem?_nil, Nat.reduceAdd, Nat.reduceSub, Nat.zero_add, if_true, if_false, Bool.false_eq_true, decide_eq_true_eq, Bool.not_eq_true', decide_eq_false_iff_not, Nat.sub_self, Bool.not_true, Bool.not_false, Nat.add_one_sub_one])
theorem eqB_r (a b c d : Int) : eqB (.tup [.int a, .int b]) (.tup [.int c, .int d]) = some (decide (a = c ∧ b = d)) := by
  have h : ∀ x y : Int, SeqAt.shaped (.tuple [.int x, .int y]) = true := fun x y => by simp [SeqAt.shaped, PyData.canLay0, PyData.canLayAll0, PyData.depth, PyData.depthAll]
  simp [eqB, toPy, toPys, h, PyData.eqv, PyData.eqvAll, Bool.beq_eq_decide_eq]
theorem w_eqR {a b c d : Int} {μ : Mm} {Q : D → Mm → Prop} {X : Exn → Mm → Prop} : WP (eqD (rD a b) (rD c d) μ) Q X = Q (.bl (decide (a = c ∧ b = d))) μ := w_eqB (eqB_r a b c d)
theorem w_neR {a b c d : Int} {μ : Mm} {Q : D → Mm → Prop} {X : Exn → Mm → Prop} : WP (neD (rD a b) (rD c d) μ) Q X = Q (.bl (!decide (a = c ∧ b = d))) μ := w_neB (eqB_r a b c d)
theorem ix_r0 {a b : Int} {μ : Mm} {Q : D → Mm → Prop} {X : Exn → Mm → Prop} : WP (ixD (rD a b) (.int 0) μ) Q X = Q (.int a) μ := by
  unfold rD
  rw [w_ixT, atI0]
theorem lt_eq {n1 d1 n2 d2 : Int} {μ : Mm} (h1 : 1 ≤ d1) (h2 : 1 ≤ d2) (z1 : d1 < 2 ^ 60) (z2 : d2 < 2 ^ 60) : F_law_lt [rD n1 d1, rD n2 d2] μ = .ok (.bl (decide (n1 * d2 < n2 * d1))) μ := by
  refine WP.eq ?_
  refine fn_in (by rfl) ?_
  unfold S_law_lt rD
  walk_at "wp"
  simp only [atI0, atI1]
  walk_at "wp"
  exact ⟨small_r (by omega) (by omega), small_r (by omega) (by omega), by simp⟩
theorem seq_mid {μ : Mm} {l : List D} {o : O} {G : Mm} : seqOf (μ.length + 1) (μ ++ o :: .lst l :: G) = some l := by
  unfold seqOf
  rw [List.getElem?_append_right (by omega), show μ.length + 1 - μ.length = 1 by omega]
  rfl
theorem set_mid {μ : Mm} {o a b : O} {G : Mm} : (μ ++ o :: a :: G).set (μ.length + 1) b = μ ++ o :: b :: G := by
  rw [List.set_append_right _ _ (by omega), show μ.length + 1 - μ.length = 1 by omega]
  rfl
theorem isSeq_of {n : Nat} {μ : Mm} {l : List D} (h : seqOf n μ = some l) : isSeq n μ = true := by
  unfold seqOf at h
  unfold isSeq
  cases e : μ[n]? with
  | none => rw [e] at h; cases h
  | some o => cases o; rfl
theorem itS_of {n : Nat} {μ : Mm} {l : List D} (h : seqOf n μ = some l) (i : Nat) : itS n μ i = some l[i]? := by
  unfold seqOf at h
  unfold itS
  cases e : μ[n]? with
  | none => rw [e] at h; cases h
  | some o =>
    cases o
    rw [e] at h
    simp only [] at h ⊢
    have : _ = l := Option.some.inj h
    rw [this]
def trues (n : Nat) : List D := List.replicate n (.bl true)
theorem allBl_true (n : Nat) : allBl (trues n) = some (List.replicate n true) := by
  unfold trues
  induction n with
  | zero => rfl
  | succ k ih => simp [List.replicate_succ, allBl, ih]
theorem trues_len (n : Nat) : (trues n).length = n := List.length_replicate
theorem trues_succ (n : Nat) : trues (n + 1) = trues n ++ [.bl true] := List.replicate_succ'
theorem right_ok {ps : List D} {μ : Mm} {Q : D → Mm → Prop} {X : Exn → Mm → Prop} (hp : ∀ p ∈ ps, GP p) (hl : ps.length ≤ 6) (q : ∀ G, Q (.bl true) (μ ++ G)) : WP (F_law_right [.tup ps, .tup (ps.map snD)] μ) Q X := by
  have hg := esOf_good hp
  have hz : (esOf ps).length ≤ 24 := by have := esOf_len hp; omega
  refine fn_in (by rfl) ?_
  unfold S_law_right
  walk_at "wp"
  refine pairs_ok hp hl ?_
  walk_at "wp"
  have s1 : seqOf μ.length (μ ++ [.lst ((esOf ps).map prD)]) = some ((esOf ps).map prD) := seq_last _ _
  refine ⟨isSeq_of s1, ?_⟩
  have ln : (μ ++ [O.lst ((esOf ps).map prD)]).length = μ.length + 1 := by simp
  rw [ln]
  have lc := lc_inv (it := itS μ.length) (g := gT [gN 3, gN 4]) (c := cYes) (e := eArgs F_law_near (aCons (eV 3) (aCons (eV 4) aNil))) (n := μ.length + 1) (ρ0 := [some (.tup ps), some (.tup (ps.map snD)), some (.ref μ.length), none, none, none, none]) ((esOf ps).map prD)
    (fun i μ' => μ' = μ ++ .lst ((esOf ps).map prD) :: .lst (trues i) :: []) (fun μ' => μ' = μ ++ .lst ((esOf ps).map prD) :: .lst (trues (esOf ps).length) :: [])
    (fun i μ' h => by rw [h]; exact itS_of seq_at i)
    (fun i d μ' hi h => by
      subst h
      rw [List.getElem?_map] at hi
      cases he : (esOf ps)[i]? with
      | none => rw [he] at hi; cases hi
      | some e =>
        rw [he] at hi
        have hd : prD e = d := by simpa using hi
        subst hd
        have hil := (List.getElem?_eq_some_iff.mp he).1
        obtain ⟨n, dd, rfl, h1, h2⟩ := hg e (List.mem_of_getElem? he)
        refine ⟨_, rfl, ?_⟩
        walk_at "wp"
        show WP (F_law_near [rD n dd, rD (nr n dd) 1] _) _ _
        rw [near_ok h1 h2, w_ok, seq_mid]
        refine ⟨Nat.lt_of_le_of_lt (show _ ≤ 1000 by rw [trues_len]; omega) (by decide), ?_⟩
        rw [set_mid, trues_succ])
    (fun μ' h => by rw [h, List.length_map]) FUEL 0 (μ ++ .lst ((esOf ps).map prD) :: .lst [] :: []) (Nat.zero_le _) (by have : FUEL = 1000000 := FUEL_eq; rw [List.length_map]; omega) rfl
  obtain ⟨μ2, e1, e2⟩ := lc
  refine ⟨μ2, by rw [List.append_assoc]; exact e1, ?_⟩
  subst e2
  rw [seq_mid]
  simp only [allBl_true]
  have e3 : (List.replicate (esOf ps).length true).all id = true := by simp
  rw [e3]
  simp only [Bool.true_eq_false, if_false]
  refine ⟨isSeq_of seq_at, ?_⟩
  refine loop_inv ((esOf ps).map prD) (fun i ρ μ' => ∃ x3 x4 x5 x6, ρ = [some (.tup ps), some (.tup (ps.map snD)), some (.ref μ.length), x3, x4, x5, x6] ∧ μ' = μ ++ .lst ((esOf ps).map prD) :: .lst (trues (esOf ps).length) :: []) (fun i ρ μ' ⟨_, _, _, _, _, h⟩ => by rw [h]; exact itS_of seq_at i) ?_ ?_ FUEL 0 _ _ (Nat.zero_le _) (by have : FUEL = 1000000 := FUEL_eq; rw [List.length_map]; omega) ?_
  · rintro i d ρ μ' hi ⟨x3, x4, x5, x6, rfl, rfl⟩
    obtain ⟨e, he, rfl⟩ := List.mem_map.mp (List.mem_of_getElem? hi)
    obtain ⟨n1, d1, rfl, h1, z1⟩ := hg e he
    refine ⟨_, rfl, ?_⟩
    walk_at "wp"
    refine ⟨isSeq_of seq_at, ?_⟩
    refine loop_inv ((esOf ps).map prD) (fun j ρ μ' => ∃ x5 x6, ρ = [some (.tup ps), some (.tup (ps.map snD)), some (.ref μ.length), some (rD n1 d1), some (rD (nr n1 d1) 1), x5, x6] ∧ μ' = μ ++ .lst ((esOf ps).map prD) :: .lst (trues (esOf ps).length) :: []) (fun i ρ μ' ⟨_, _, _, h⟩ => by rw [h]; exact itS_of seq_at i) ?_ ?_ FUEL 0 _ _ (Nat.zero_le _) (by have : FUEL = 1000000 := FUEL_eq; rw [List.length_map]; omega) ?_
    · rintro j d ρ μ' hj ⟨x5, x6, rfl, rfl⟩
      obtain ⟨e2, he2, rfl⟩ := List.mem_map.mp (List.mem_of_getElem? hj)
      obtain ⟨n2, d2, rfl, h2, z2⟩ := hg e2 he2
      refine ⟨[some (.tup ps), some (.tup (ps.map snD)), some (.ref μ.length), some (rD n1 d1), some (rD (nr n1 d1) 1), some (rD n2 d2), some (rD (nr n2 d2) 1)], rfl, ?_⟩
      have back : ∃ x5 x6, ([some (.tup ps), some (.tup (ps.map snD)), some (.ref μ.length), some (rD n1 d1), some (rD (nr n1 d1) 1), some (rD n2 d2), some (rD (nr n2 d2) 1)] : En) = [some (.tup ps), some (.tup (ps.map snD)), some (.ref μ.length), some (rD n1 d1), some (rD (nr n1 d1) 1), x5, x6] ∧ (μ ++ .lst ((esOf ps).map prD) :: .lst (trues (esOf ps).length) :: [] : Mm) = μ ++ .lst ((esOf ps).map prD) :: .lst (trues (esOf ps).length) :: [] := ⟨_, _, rfl, rfl⟩
      walk_at "wp"
      simp only [w_eqR, w_neR]
      walk_at "wp"
      rw [lt_eq h1 h2 z1 z2]
      walk_at "wp"
      simp only [ix_r0]
      walk_at "wp"
      have tail : ∀ {A B : Prop}, B → (if n1 * d2 < n2 * d1 then (if nr n2 d2 < nr n1 d1 then A else B) else B) := fun {A B} b => L2.ite2 (fun h => L2.ite2 (fun h3 => absurd (nr_mono h1 h2 h) (by omega)) (fun _ => b)) (fun _ => b)
      refine L2.ite2 (fun h => ?_) (fun _ => tail ⟨_, _, rfl, trivial⟩)
      obtain ⟨rfl, rfl⟩ := h
      refine L2.ite2 (fun h => absurd ⟨rfl, trivial⟩ h) (fun _ => tail ⟨_, _, rfl, trivial⟩)
    · rintro ρ μ' ⟨x5, x6, rfl, rfl⟩
      exact ⟨_, _, _, _, rfl, rfl⟩
    · exact ⟨_, _, rfl, rfl⟩
  · rintro ρ μ' ⟨x3, x4, x5, x6, rfl, rfl⟩
    walk_at "wp"
    exact q _
  · exact ⟨_, _, _, _, rfl, rfl⟩
theorem begin_ok {ns : List Int} {Q : D → Mm → Prop} {X : Exn → Mm → Prop} (hn : ns.length ≤ 63) (q : ∀ μ, DS [] μ → Q (.ref 1) μ) : WP (F_law_begin [.sq (ns.map D.int)] []) Q X := by
  refine fn_in (by rfl) ?_
  unfold S_law_begin
  walk_at "wp"
  have h := lc_map (l := ns.map D.int) (f := id) (e := eArgs intL (aCons (eV 1) aNil)) (ρ := [some (.sq (ns.map D.int)), none]) (μ := []) (k := 1) (by rw [List.length_map]; omega) (fun x hx G' => by
    obtain ⟨i, _, rfl⟩ := List.mem_map.mp hx
    rfl)
  refine ⟨_, h, sz1 (by decide), q _ ⟨ns, 0, 0, 7, by decide, by decide, ?_⟩⟩
  simp [cells, drw]
end G
namespace G
open PySem PySem.Spec PyProof.Rows L2 ML
local macro_rules | `(tactic| walk_at "wp") => `(tactic| simp only [wipeD, w_ok, w_ex, w_no, w_ret, w_stop, w_thn, w_var, w_c, w_e1, w_e2, w_anil, w_acons, w_args, w_val, w_cand, w_cor, w_cnot, w_cyes, w_eif, w_eand, w_eor, w_enot, w_mktup, w_mklst, w_add, w_sub, w_mul, w_fdiv, w_mod, w_pow, w_shl, w_neg, w_lt, w_le, w_gt, w_ge, w_is, w_isnt, isNon, w_eqI, w_neI, w_ixT, w_ixR, w_nop, w_seq, w_drop, w_sret, w_sretN, w_sif, w_brk, w_cnt, w_asg, gN, gT, gs, w_par, w_aug, w_put, w_putD, w_augput, w_ixL, w_mt0, w_mt, isTy_lst, w_append, w_reverse, w_lenT, w_lenR, w_abs, w_intI, w_intB, w_gcd, w_tupT, w_tupR, w_listT, w_allR, w_for, w_itT, w_itF, w_itR, w_rng1, w_zipT, w_lc, List.length_cons, List.length_nil, List.map_cons, List.map_nil, List.replicate, List.cons_append, List.nil_append, List.append_nil, List.getElem?_cons_zero, List.getElem?_cons_succ, List.set_cons_zero, List.set_cons_succ, List.getElem?_nil, Nat.reduceAdd, Nat.reduceSub, Nat.zero_add, if_true, if_false, Bool.false_eq_true, decide_eq_true_eq, Bool.not_eq_true', decide_eq_false_iff_not, Nat.sub_self, Bool.not_true, Bool.not_false, Nat.add_one_sub_one])
/-! ### equal data -/
/-- data of a depth -/
def Pl (n : Nat) (d : D) : Prop := ∃ p, toPy d = some p ∧ p.canLay0 = true ∧ p.depth ≤ n
theorem pl_int (i : Int) : Pl 0 (.int i) := ⟨.int i, rfl, by simp [PyData.canLay0], by simp [PyData.depth]⟩
theorem pl_non (n : Nat) : Pl n .non := ⟨.none, rfl, by simp [PyData.canLay0], by simp [PyData.depth]⟩
theorem Pl.mono {n k : Nat} {d : D} (h : Pl n d) (l : n ≤ k) : Pl k d := by
  obtain ⟨p, a, b, c⟩ := h
  exact ⟨p, a, b, Nat.le_trans c l⟩
theorem pls {n : Nat} : ∀ {l : List D}, (∀ d ∈ l, Pl n d) → ∃ ps, toPys l = some ps ∧ PyData.canLayAll0 ps = true ∧ PyData.depthAll ps ≤ n
  | [], _ => ⟨[], rfl, by simp [PyData.canLayAll0], by simp [PyData.depthAll]⟩
  | d :: l, h => by
    obtain ⟨p, a, b, c⟩ := h d List.mem_cons_self
    obtain ⟨ps, a2, b2, c2⟩ := pls (l := l) fun x hx => h x (List.mem_cons_of_mem _ hx)
    exact ⟨p :: ps, by simp [toPys, a, a2], by simp [PyData.canLayAll0, b, b2], by simp only [PyData.depthAll]; omega⟩
theorem pl_tup {n : Nat} {l : List D} (h : ∀ d ∈ l, Pl n d) : Pl (n + 1) (.tup l) := by
  obtain ⟨ps, a, b, c⟩ := pls h
  exact ⟨.tuple ps, by simp [toPy, a], by simp [PyData.canLay0, b], by simp only [PyData.depth]; omega⟩
theorem eqB_self {n : Nat} {d : D} (h : Pl n d) (hn : n ≤ 64) : eqB d d = some true := by
  obtain ⟨p, a, b, c⟩ := h
  have s : SeqAt.shaped p = true := by
    unfold SeqAt.shaped
    rw [b, decide_eq_true (Nat.le_trans c hn)]
    rfl
  unfold eqB
  simp only [a, s, Bool.and_self, if_true]
  rw [SeqAt.eqv_refl p b]
theorem pl_ge {x : D} (h : GE x) : Pl 1 x := by
  obtain ⟨n, d, rfl, _, _⟩ := h
  refine pl_tup fun y hy => ?_
  simp only [List.mem_cons, List.not_mem_nil, or_false] at hy
  rcases hy with rfl | rfl <;> exact pl_int _
theorem pl_gp {p : D} (h : GP p) : Pl 2 p := by
  rcases h with rfl | ⟨l, rfl, _, hg⟩
  · exact pl_non 2
  · exact pl_tup fun x hx => pl_ge (hg x hx)
theorem pl_gps {ps : List D} (h : ∀ p ∈ ps, GP p) : Pl 3 (.tup ps) := pl_tup fun x hx => pl_gp (h x hx)
theorem map_sn_sn {ps : List D} (h : ∀ p ∈ ps, GP p) : (ps.map snD).map snD = ps.map snD := by
  rw [List.map_map]
  exact List.map_congr_left fun p hp => sn_sn (h p hp)
theorem law_ok (ns : List Int) (hn : ns.length ≤ 63) : WP (F_law [.sq (ns.map D.int)] []) (fun d _ => d = .bl true) (fun _ _ => False) := by
  refine fn_in (by rfl) ?_
  unfold S_law
  walk_at "wp"
  refine begin_ok hn fun μ ds => ?_
  refine layout_ok ds fun ps μ hp hl => ?_
  have hp1 : ∀ p ∈ ps.map snD, GP p := fun p h => by
    obtain ⟨q, hq, rfl⟩ := List.mem_map.mp h
    exact gp_sn (hp q hq)
  have hpr : ∀ p ∈ ps.reverse, GP p := fun p h => hp p (List.mem_reverse.mp h)
  have hl1 : (ps.map snD).length ≤ 6 := by simpa using hl
  have hlr : ps.reverse.length ≤ 6 := by simpa using hl
  refine snapped_ok hp hl fun G => ?_
  refine right_ok hp hl fun G => ?_
  walk_at "wp"
  simp only [Bool.true_eq_false, if_false]
  refine snapped_ok hp1 hl1 fun G => ?_
  refine right_ok hp1 hl1 fun G => ?_
  rw [map_sn_sn hp]
  simp only [Bool.true_eq_false, if_false]
  rw [w_neB (eqB_self (pl_gps hp1) (by decide))]
  walk_at "wp"
  simp only [seq_last]
  refine ⟨rfl, ?_⟩
  rw [set_last]
  simp only [seq_last]
  refine snapped_ok hpr hlr fun G1 => ?_
  have e1 : ∀ (μ : Mm) (l : List D) (G : Mm), seqOf μ.length (μ ++ [.lst l] ++ G) = some l := fun μ l G => by
    rw [List.append_assoc]
    exact seq_at
  simp only [e1]
  refine right_ok hpr hlr fun G2 => ?_
  simp only [Bool.true_eq_false, if_false]
  rw [List.map_reverse]
  generalize hT : ps.map snD = T at *
  generalize μ ++ _ ++ _ ++ _ ++ _ ++ [O.lst ps.reverse] ++ G1 ++ G2 = μx
  refine ⟨by unfold okR; rw [decide_eq_true (show (-(2 ^ 62) : Int) ≤ (T.length : Int) by omega), decide_eq_true (show ((T.length : Nat) : Int) < 2 ^ 62 by omega)]; rfl, ?_⟩
  refine loop_inv (rngL 0 (T.length : Int).toNat) (fun i ρ μ' => ∃ M x7, ρ = [some (.sq (ns.map D.int)), some (.ref 1), some (.tup ps), some (.tup T), some (.tup T), some (.ref M), some (.tup T.reverse), x7]) (fun i ρ μ' _ => rngL_it 0 _ i) ?_ ?_ FUEL 0 _ _ (Nat.zero_le _) (by rw [rngL_len]; have : FUEL = 1000000 := FUEL_eq; omega) ?_
  · rintro i d ρ μ' hi ⟨M, x7, rfl⟩
    have hil := (List.getElem?_eq_some_iff.mp hi).1
    rw [rngL_len] at hil
    have hd : D.int (0 + (i : Int)) = d := by
      unfold rngL at hi
      rw [List.getElem?_map, List.getElem?_range hil] at hi
      simpa using hi
    subst hd
    have hiT : i < T.length := by omega
    have hj : T.length - 1 - i < T.length := by omega
    have a1 : atI T.reverse (0 + (i : Int)) = some T[T.length - 1 - i] := by
      rw [Int.zero_add]
      exact atI_nat (by rw [List.getElem?_reverse hiT, List.getElem?_eq_getElem hj])
    have a2 : atI T ((T.length : Int) - 1 - (0 + (i : Int))) = some T[T.length - 1 - i] := by
      rw [show ((T.length : Int) - 1 - (0 + (i : Int))) = ((T.length - 1 - i : Nat) : Int) by omega]
      exact atI_nat (List.getElem?_eq_getElem hj)
    refine ⟨_, rfl, ?_⟩
    walk_at "wp"
    simp only [a1, a2]
    rw [w_neB (eqB_self (pl_gp (hp1 _ (List.getElem_mem hj))) (by decide))]
    walk_at "wp"
    exact ⟨_, _, rfl⟩
  · rintro ρ μ' ⟨M, x7, rfl⟩
    walk_at "wp"
    refine snapped_ok hp hl fun G => ?_
    rw [hT, w_eqB (eqB_self (pl_gps hp1) (by decide))]
  · exact ⟨_, none, rfl⟩
end G
open PySem PySem.W PyProof.Rows
set_option maxHeartbeats 0 in
theorem PySem.Challenge.cw_wishpanes_k87_snapping_holds : PySem.Challenge.rw_wishpanes_k87_snapping.Holds := by
  w_on; o_law; k_head; (case hw => w_witness2)
  k_fill
  refine L2.walk_of (l := PySem.Challenge.rw_wishpanes_k87_snapping) (n := 63) (k := 5) (x := "script") (CX := fun _ => L2.CX0) (sp := fun w => ML.spN _ G.F_law) rfl (by decide) rfl ⟨rfl, by decide, by decide⟩ (fun w h Y => PySem.W.kIn_of Y) ?F (fun w H a ns hl hO hS => ML.law_end hO hS (G.law_ok ns hl)) (fun _ _ _ _ _ h => h)
  case F =>
    intro w mg fa h KX Gm hmg
    refine' G.all_mk KX Gm hmg ?a0 ?l0 ?c0 ?k0 ?a1 ?l1 ?c1 ?k1 ?a2 ?l2 ?c2 ?k2 ?a3 ?l3 ?c3 ?k3 ?a4 ?l4 ?c4 ?k4 ?a5 ?l5 ?c5 ?k5 ?a6 ?l6 ?c6 ?k6 ?a7 ?l7 ?c7 ?k7 ?a8 ?l8 ?c8 ?k8 ?a9 ?l9 ?c9 ?k9 ?a10 ?l10 ?c10 ?k10 ?a11 ?l11 ?c11 ?k11 ?a12 ?l12 ?c12 ?k12 ?a13 ?l13 ?c13 ?k13 ?a14 ?l14 ?c14 ?k14 ?a15 ?l15 ?c15 ?k15 ?a16 ?l16 ?c16 ?k16 ?a17 ?l17 ?c17 ?k17 ?a18 ?l18 ?c18 ?k18 ?ga0 ?gl0 ?im0 ?z0 ?z1 ?z2 ?z3 ?z4 ?z5 ?z6 ?z7 ?z8 ?z9
    (case a0 => k_is); (case l0 => k_is); (case c0 => k_is); (case k0 => k_is); (case a1 => k_is); (case l1 => k_is); (case c1 => k_is); (case k1 => k_is); (case a2 => k_is); (case l2 => k_is); (case c2 => k_is); (case k2 => k_is); (case a3 => k_is); (case l3 => k_is); (case c3 => k_is); (case k3 => k_is); (case a4 => k_is); (case l4 => k_is); (case c4 => k_is); (case k4 => k_is); (case a5 => k_is); (case l5 => k_is); (case c5 => k_is); (case k5 => k_is); (case a6 => k_is); (case l6 => k_is); (case c6 => k_is); (case k6 => k_is); (case a7 => k_is); (case l7 => k_is); (case c7 => k_is); (case k7 => k_is); (case a8 => k_is); (case l8 => k_is); (case c8 => k_is); (case k8 => k_is); (case a9 => k_is); (case l9 => k_is); (case c9 => k_is); (case k9 => k_is); (case a10 => k_is); (case l10 => k_is); (case c10 => k_is); (case k10 => k_is); (case a11 => k_is); (case l11 => k_is); (case c11 => k_is); (case k11 => k_is); (case a12 => k_is); (case l12 => k_is); (case c12 => k_is); (case k12 => k_is); (case a13 => k_is); (case l13 => k_is); (case c13 => k_is); (case k13 => k_is); (case a14 => k_is); (case l14 => k_is); (case c14 => k_is); (case k14 => k_is); (case a15 => k_is); (case l15 => k_is); (case c15 => k_is); (case k15 => k_is); (case a16 => k_is); (case l16 => k_is); (case c16 => k_is); (case k16 => k_is); (case a17 => k_is); (case l17 => k_is); (case c17 => k_is); (case k17 => k_is); (case a18 => k_is); (case l18 => k_is); (case c18 => k_is); (case k18 => k_is); (case ga0 => k_is); (case gl0 => k_is); (case im0 => k_is); (case z0 => k_is); (case z1 => k_is); (case z2 => k_is); (case z3 => k_is); (case z4 => k_is); (case z5 => k_is); (case z6 => k_is); (case z7 => k_is); (case z8 => k_is); (case z9 => k_is)
#print axioms PySem.Challenge.cw_wishpanes_k87_snapping_holds
