import PyProof.Rows.All
import PySem.Challenge.RW_nonelearns_k00_short_trails
import HandS.ForMost
import HandS.ForExc
import HandS.IsInst
import HandS.TupMul
import HandS.TupAny
import HandS.TupLe
import HandS.Zip
import HandS.Conv
import HandS.CallSlots
import HandS.Deep
import KE.KDictZip
import KE.KDictList
import KE.GoesMore
import KE.GoesEnum
import KE.SortData
set_option Elab.async false
set_option linter.all false
set_option maxRecDepth 100000
set_option maxHeartbeats 4000000
/-! layer E, part A: data, how it lies in the heap, slots, steps -/
namespace EE
open PySem PySem.Spec
open PyProof.Rows hiding St
open L2

/-- keys of dicts -/
inductive Ky where
  | k (k : Key) | t (ks : List Key)
  deriving DecidableEq
/-- kinds of nodes; the mark tells whether it is owned by one slot (may change) or frozen -/
inductive Kd where
  | tup | lst (own : Bool) | dic (own : Bool) (ks : List Ky)
  deriving DecidableEq
/-- plain data -/
inductive D where
  | non | bl (b : Bool) | int (i : Int) | str (x : Str) | nd (k : Kd) (xs : List D)

def Kd.isF : Kd → Bool
  | .tup => true
  | .lst o => !o
  | .dic o _ => !o
def Kd.frz : Kd → Kd
  | .tup => .tup
  | .lst _ => .lst false
  | .dic _ ks => .dic false ks
mutual
def D.isF : D → Bool
  | .nd k xs => k.isF && D.isFL xs
  | .non => true
  | .bl _ => true
  | .int _ => true
  | .str _ => true
def D.isFL : List D → Bool
  | [] => true
  | x :: xs => D.isF x && D.isFL xs
end
mutual
def D.frz : D → D
  | .nd k xs => .nd k.frz (D.frzL xs)
  | .non => .non
  | .bl b => .bl b
  | .int i => .int i
  | .str x => .str x
def D.frzL : List D → List D
  | [] => []
  | x :: xs => D.frz x :: D.frzL xs
end
theorem D.isFL_iff : ∀ {xs : List D}, D.isFL xs = true ↔ ∀ x ∈ xs, D.isF x = true
  | [] => by simp [D.isFL]
  | x :: xs => by simp [D.isFL, D.isFL_iff (xs := xs)]
theorem D.isFL_all (xs : List D) : D.isFL xs = xs.all D.isF := by
  induction xs with
  | nil => rfl
  | cons x xs ih => simp [D.isFL, ih]
theorem D.frzL_map (xs : List D) : D.frzL xs = xs.map D.frz := by
  induction xs with
  | nil => rfl
  | cons x xs ih => simp [D.frzL, ih]

/-- things that never change -/
def Fix : HO → Prop
  | .tup _ => True
  | .frz _ _ => True
  | _ => False
theorem Fix.notMut {o : HO} (h : Fix o) : ¬ Mut (some o) := by
  cases o <;> first | exact fun z => z | exact fun _ => h

/-- a dict's object: keys and values -/
def DicAt (o : HO) (ks : List Ky) (vs : List V) : Prop :=
  (∃ kvs : List (Key × V), o = .dK kvs ∧ ks = kvs.map (fun p => Ky.k p.1) ∧ vs = kvs.map (·.2)) ∨
  (∃ kvs : List (List Key × V), o = .dT kvs ∧ ks = kvs.map (fun p => Ky.t p.1) ∧ vs = kvs.map (·.2))
theorem DicAt.mut {o : HO} {ks : List Ky} {vs : List V} (h : DicAt o ks vs) : Mut (some o) := by
  rcases h with ⟨kvs, rfl, _⟩ | ⟨kvs, rfl, _⟩ <;> trivial
theorem DicAt.notFrz {o : HO} {ks : List Ky} {vs : List V} (h : DicAt o ks vs) : ¬ Fix o := by
  rcases h with ⟨kvs, rfl, _⟩ | ⟨kvs, rfl, _⟩ <;> exact fun z => z

/-- a frozen list -/
def SqZ (K : PySem.W.Frag) (H : Hp) (a : Addr) (vs : List V) : Prop :=
  (∃ o, H a = some (.frz o (.lst vs))) ∨
    ∃ (o : Obj) (its : Array Value) (n : Nat), K.lookup a = some o ∧ o.cls = .type "list" ∧ o.dict = none ∧ o.data = .seq its n ∧ its.size ≤ sizeLine ∧ Vals vs its.toList
theorem SqZ.sq {K : PySem.W.Frag} {H : Hp} {a : Addr} {vs : List V} (h : SqZ K H a vs) : SqL K H a vs := by
  rcases h with ⟨o, h⟩ | h
  · exact .inl (.inr ⟨o, h⟩)
  · exact .inr h
/-- a frozen node at a, its children vs -/
def FzAt (K : PySem.W.Frag) (H : Hp) (a : Addr) : Kd → List V → Prop
  | .tup, vs => SqT K H a vs
  | .lst false, vs => SqZ K H a vs
  | .dic false ks, vs => ∃ o u, H a = some (.frz o u) ∧ DicAt u ks vs
  | _, _ => False
/-- an owned node at a -/
def OwAt (H : Hp) (a : Addr) : Kd → List V → Prop
  | .lst true, vs => H a = some (.lst vs)
  | .dic true ks, vs => ∃ u, H a = some u ∧ DicAt u ks vs
  | _, _ => False

inductive Fz (K : PySem.W.Frag) (H : Hp) : V → D → Prop where
  | non : Fz K H .non .non
  | bl (b : Bool) : Fz K H (.bl b) (.bl b)
  | int (i : Int) : Fz K H (.int i) (.int i)
  | str (x : Str) : Fz K H (.str x) (.str x)
  | nd {a : Addr} {k : Kd} {vs : List V} {xs : List D} : FzAt K H a k vs → vs.length = xs.length →
      (∀ (i : Nat) (v : V) (d : D), vs[i]? = some v → xs[i]? = some d → Fz K H v d) → Fz K H (.ref a) (.nd k xs)

inductive Ow (K : PySem.W.Frag) (H : Hp) : V → D → List Addr → Prop where
  | fz {v : V} {d : D} : Fz K H v d → Ow K H v d []
  | nd {a : Addr} {k : Kd} {vs : List V} {xs : List D} {fs : List (List Addr)} : OwAt H a k vs → vs.length = xs.length → fs.length = xs.length →
      (∀ (i : Nat) (v : V) (d : D) (f : List Addr), vs[i]? = some v → xs[i]? = some d → fs[i]? = some f → Ow K H v d f) → Ow K H (.ref a) (.nd k xs) (a :: fs.flatten)
  | tup {a : Addr} {vs : List V} {xs : List D} {fs : List (List Addr)} : SqT K H a vs → vs.length = xs.length → fs.length = xs.length →
      (∀ (i : Nat) (v : V) (d : D) (f : List Addr), vs[i]? = some v → xs[i]? = some d → fs[i]? = some f → Ow K H v d f) → Ow K H (.ref a) (.nd .tup xs) fs.flatten

section
variable {K : PySem.W.Frag} {H H' : Hp} {a : Addr} {v : V} {d : D} {f : List Addr} {k : Kd} {vs : List V} {xs : List D}
theorem SqT.stay (h : SqT K H a vs) (k : ∀ b o, H b = some o → Fix o → H' b = some o) : SqT K H' a vs := by
  rcases h with (h | ⟨o, h⟩) | h
  · exact .inl (.inl (k _ _ h trivial))
  · exact .inl (.inr ⟨o, k _ _ h trivial⟩)
  · exact .inr h
theorem SqZ.stay (h : SqZ K H a vs) (k : ∀ b o, H b = some o → Fix o → H' b = some o) : SqZ K H' a vs := by
  rcases h with ⟨o, h⟩ | h
  · exact .inl ⟨o, k _ _ h trivial⟩
  · exact .inr h
theorem FzAt.stay (h : FzAt K H a k vs) (kp : ∀ b o, H b = some o → Fix o → H' b = some o) : FzAt K H' a k vs := by
  match k, h with
  | .tup, h => exact SqT.stay h kp
  | .lst false, h => exact SqZ.stay h kp
  | .dic false ks, ⟨o, u, h, q⟩ => exact ⟨o, u, kp _ _ h trivial, q⟩
theorem FzAt.isF (h : FzAt K H a k vs) : k.isF = true := by
  match k, h with
  | .tup, h => rfl
  | .lst false, h => rfl
  | .dic false ks, _ => rfl
theorem OwAt.isF (h : OwAt H a k vs) : k.isF = false := by
  match k, h with
  | .lst true, h => rfl
  | .dic true ks, _ => rfl
theorem OwAt.mut (h : OwAt H a k vs) : ∃ o, H a = some o ∧ Mut (some o) := by
  match k, h with
  | .lst true, h => exact ⟨_, h, trivial⟩
  | .dic true ks, ⟨u, h, q⟩ => exact ⟨u, h, q.mut⟩
theorem OwAt.stay (h : OwAt H a k vs) (e : ∀ o, H a = some o → H' a = some o) : OwAt H' a k vs := by
  match k, h with
  | .lst true, h => exact e _ h
  | .dic true ks, ⟨u, h, q⟩ => exact ⟨u, e _ h, q⟩
theorem OwAt.frz (h : OwAt H a k vs) (e : ∀ u, H a = some u → ∃ o, H' a = some (.frz o u)) : FzAt K H' a k.frz vs := by
  match k, h with
  | .lst true, h => obtain ⟨o, q⟩ := e _ h; exact .inl ⟨o, q⟩
  | .dic true ks, ⟨u, h, q⟩ => obtain ⟨o, z⟩ := e _ h; exact ⟨o, u, z, q⟩
theorem FzAt.frz (h : FzAt K H a k vs) : FzAt K H a k.frz vs := by
  match k, h with
  | .tup, h => exact h
  | .lst false, h => exact h
  | .dic false ks, h => exact h

theorem Fz.stay (h : Fz K H v d) (kp : ∀ b o, H b = some o → Fix o → H' b = some o) : Fz K H' v d := by
  induction h with
  | non => exact .non
  | bl b => exact .bl b
  | int i => exact .int i
  | str x => exact .str x
  | nd h1 h2 _ ih => exact .nd (h1.stay kp) h2 ih
theorem Fz.isF (h : Fz K H v d) : d.isF = true := by
  induction h with
  | non => rfl
  | bl b => rfl
  | int i => rfl
  | str x => rfl
  | @nd a k vs xs h1 h2 _ ih =>
    show (k.isF && D.isFL xs) = true
    rw [h1.isF, D.isFL_all, Bool.true_and, List.all_eq_true]
    intro x hx
    obtain ⟨i, hi, e⟩ := List.getElem_of_mem hx
    exact ih i (vs[i]'(by omega)) x (List.getElem?_eq_getElem _) (by rw [← e]; exact List.getElem?_eq_getElem hi)

theorem mem_flat {α : Type} {fs : List (List α)} {i : Nat} {f : List α} {b : α} (h : fs[i]? = some f) (hb : b ∈ f) : b ∈ fs.flatten :=
  List.mem_flatten.mpr ⟨f, List.mem_of_getElem? h, hb⟩
theorem Ow.stay (h : Ow K H v d f) (kp : ∀ b o, H b = some o → (Fix o ∨ b ∈ f) → H' b = some o) : Ow K H' v d f := by
  induction h with
  | fz h => exact .fz (h.stay fun b o e x => kp b o e (.inl x))
  | @nd a k vs xs fs h1 h2 h3 _ ih =>
    refine .nd (h1.stay fun o e => kp _ _ e (.inr List.mem_cons_self)) h2 h3 fun i v d f e1 e2 e3 => ih i v d f e1 e2 e3 fun b o e x => kp b o e (x.imp id fun hb => List.mem_cons_of_mem _ (mem_flat e3 hb))
  | @tup a vs xs fs h1 h2 h3 _ ih =>
    refine .tup (SqT.stay h1 fun b o e x => kp b o e (.inl x)) h2 h3 fun i v d f e1 e2 e3 => ih i v d f e1 e2 e3 fun b o e x => kp b o e (x.imp id fun hb => mem_flat e3 hb)
/-- all that is owned is tracked and may change -/
theorem Ow.mut (h : Ow K H v d f) : ∀ b ∈ f, ∃ o, H b = some o ∧ Mut (some o) := by
  induction h with
  | fz h => intro b hb; cases hb
  | @nd a k vs xs fs h1 h2 h3 _ ih =>
    intro b hb
    rcases List.mem_cons.mp hb with rfl | hb
    · exact h1.mut
    · obtain ⟨f, hf, hb⟩ := List.mem_flatten.mp hb
      obtain ⟨i, hi, e⟩ := List.getElem_of_mem hf
      exact ih i (vs[i]'(by omega)) (xs[i]'(by omega)) f (List.getElem?_eq_getElem _) (List.getElem?_eq_getElem _) (by rw [← e]; exact List.getElem?_eq_getElem hi) b hb
  | @tup a vs xs fs h1 h2 h3 _ ih =>
    intro b hb
    obtain ⟨f, hf, hb⟩ := List.mem_flatten.mp hb
    obtain ⟨i, hi, e⟩ := List.getElem_of_mem hf
    exact ih i (vs[i]'(by omega)) (xs[i]'(by omega)) f (List.getElem?_eq_getElem _) (List.getElem?_eq_getElem _) (by rw [← e]; exact List.getElem?_eq_getElem hi) b hb
/-- frozen data is owned by nobody -/
theorem Ow.isF (h : Ow K H v d f) (q : d.isF = true) : Fz K H v d ∧ f = [] := by
  induction h with
  | fz h => exact ⟨h, rfl⟩
  | @nd a k vs xs fs h1 h2 h3 _ ih =>
    have z : (k.isF && D.isFL xs) = true := q
    rw [h1.isF] at z
    cases z
  | @tup a vs xs fs h1 h2 h3 _ ih =>
    have z : D.isFL xs = true := q
    have c : ∀ (i : Nat) (v : V) (d : D) (f : List Addr), vs[i]? = some v → xs[i]? = some d → fs[i]? = some f → Fz K H v d ∧ f = [] := fun i v d f e1 e2 e3 => ih i v d f e1 e2 e3 (D.isFL_iff.mp z d (List.mem_of_getElem? e2))
    refine ⟨.nd (k := .tup) h1 h2 fun i v d e1 e2 => ?_, ?_⟩
    · obtain ⟨hi, _⟩ := List.getElem?_eq_some_iff.mp e2
      exact (c i v d (fs[i]'(by omega)) e1 e2 (List.getElem?_eq_getElem _)).1
    · rw [List.flatten_eq_nil_iff]
      intro f hf
      obtain ⟨i, hi, e⟩ := List.getElem_of_mem hf
      exact (c i (vs[i]'(by omega)) (xs[i]'(by omega)) f (List.getElem?_eq_getElem _) (List.getElem?_eq_getElem _) (by rw [← e]; exact List.getElem?_eq_getElem hi)).2
/-- behind a lock of all that is owned it is frozen -/
theorem Fz.frz (h : Fz K H v d) : Fz K H v d.frz := by
  induction h with
  | non => exact .non
  | bl b => exact .bl b
  | int i => exact .int i
  | str x => exact .str x
  | @nd a k vs xs h1 h2 _ ih =>
    show Fz K H (.ref a) (.nd k.frz (D.frzL xs))
    rw [D.frzL_map]
    refine .nd h1.frz (by simpa using h2) fun i v d e1 e2 => ?_
    rw [List.getElem?_map] at e2
    cases e : xs[i]? with
    | none => rw [e] at e2; cases e2
    | some x => rw [e] at e2; cases e2; exact ih i v x e1 e
theorem Ow.frz (h : Ow K H v d f) (kp : ∀ b o, H b = some o → Fix o → H' b = some o) (lk : ∀ b ∈ f, ∀ u, H b = some u → ∃ o, H' b = some (.frz o u)) : Fz K H' v d.frz := by
  induction h with
  | fz h => exact (h.stay kp).frz
  | @nd a k vs xs fs h1 h2 h3 _ ih =>
    show Fz K H' (.ref a) (.nd k.frz (D.frzL xs))
    rw [D.frzL_map]
    refine .nd (h1.frz (lk a List.mem_cons_self)) (by simpa using h2) fun i v d e1 e2 => ?_
    rw [List.getElem?_map] at e2
    cases e : xs[i]? with
    | none => rw [e] at e2; cases e2
    | some x =>
      rw [e] at e2; cases e2
      obtain ⟨hi, _⟩ := List.getElem?_eq_some_iff.mp e
      have e3 : fs[i]? = some (fs[i]'(by omega)) := List.getElem?_eq_getElem _
      exact ih i v x _ e1 e e3 fun b hb => lk b (List.mem_cons_of_mem _ (mem_flat e3 hb))
  | @tup a vs xs fs h1 h2 h3 _ ih =>
    show Fz K H' (.ref a) (.nd .tup (D.frzL xs))
    rw [D.frzL_map]
    refine .nd (k := .tup) (SqT.stay h1 kp) (by simpa using h2) fun i v d e1 e2 => ?_
    rw [List.getElem?_map] at e2
    cases e : xs[i]? with
    | none => rw [e] at e2; cases e2
    | some x =>
      rw [e] at e2; cases e2
      obtain ⟨hi, _⟩ := List.getElem?_eq_some_iff.mp e
      have e3 : fs[i]? = some (fs[i]'(by omega)) := List.getElem?_eq_getElem _
      exact ih i v x _ e1 e e3 fun b hb => lk b (mem_flat e3 hb)
end

/-- all at the addresses of a list are locked -/
theorem lockAll {X : Cx} {pins : List (Addr × Obj)} {σ : St} {s : Shared} : ∀ (f : List Addr) (H : Hp), Inv X pins σ H s → (∀ b ∈ f, ∃ o, H b = some o ∧ Mut (some o)) →
    ∃ H', Inv X pins σ H' s ∧ (∀ b, b ∉ f → H' b = H b) ∧ ∀ b ∈ f, ∀ u, H b = some u → ∃ o, H' b = some (.frz o u)
  | [], H, I, _ => ⟨H, I, fun _ _ => rfl, fun b hb => nomatch hb⟩
  | a :: f, H, I, hm => by
    obtain ⟨H1, I1, k1, l1⟩ := lockAll f H I fun b hb => hm b (List.mem_cons_of_mem _ hb)
    by_cases ha : a ∈ f
    · refine ⟨H1, I1, fun b hb => k1 b fun z => hb (List.mem_cons_of_mem _ z), fun b hb => ?_⟩
      rcases List.mem_cons.mp hb with rfl | hb
      · exact l1 b ha
      · exact l1 b hb
    · obtain ⟨o, e, mu⟩ := hm a List.mem_cons_self
      have e1 : H1 a = some o := (k1 a ha).trans e
      obtain ⟨od, I2⟩ := I1.lock e1 mu
      refine ⟨_, I2, fun b hb => ?_, fun b hb u eu => ?_⟩
      · have hb' : b ≠ a := fun z => hb (by rw [z]; exact List.mem_cons_self)
        rw [upd_ne hb']
        exact k1 b fun z => hb (List.mem_cons_of_mem _ z)
      · by_cases hba : b = a
        · subst hba
          rw [e] at eu; cases eu
          exact ⟨od, upd_same⟩
        · rw [upd_ne hba]
          exact l1 b ((List.mem_cons.mp hb).resolve_left hba) u eu

/-! ### slots -/
inductive Sl where
  | un | dt (x : D) | io (x : D)
def Sl.dat : Sl → Option D
  | .un => none
  | .dt x => some x
  | .io x => some x
abbrev Rho := List Sl
abbrev Fp := Nat → List Addr
def fsS (F : Fp) : Addr → Prop := fun a => ∃ i, a ∈ F i

structure EnvR (K : PySem.W.Frag) (A : Nat → Addr) (σ : St) (H : Hp) (ρ : Rho) (F : Fp) : Prop where
  rep : ∀ (i : Nat) (s : Sl) (d : D), ρ[i]? = some s → s.dat = some d → ∃ v, σ[i]? = some (some v) ∧ Ow K H v d (F i)
  io : ∀ (i : Nat) (d : D), ρ[i]? = some (.io d) → σ[i]? = some (some (.ref (A i)))
  emp : ∀ i a, a ∈ F i → ∃ s d, ρ[i]? = some s ∧ s.dat = some d
  nd : ∀ i, (F i).Nodup
  dj : ∀ i j a, a ∈ F i → a ∈ F j → i = j
  len : ρ.length = σ.length
theorem EnvR.mut {K : PySem.W.Frag} {A : Nat → Addr} {σ : St} {H : Hp} {ρ : Rho} {F : Fp} (e : EnvR K A σ H ρ F) {a : Addr} (h : fsS F a) : ∃ o, H a = some o ∧ Mut (some o) := by
  obtain ⟨i, h⟩ := h
  obtain ⟨s, d, e1, e2⟩ := e.emp i a h
  obtain ⟨v, _, w⟩ := e.rep i s d e1 e2
  exact w.mut a h
theorem EnvR.notFix {K : PySem.W.Frag} {A : Nat → Addr} {σ : St} {H : Hp} {ρ : Rho} {F : Fp} (e : EnvR K A σ H ρ F) {a : Addr} {o : HO} (q : H a = some o) (x : Fix o) : ¬ fsS F a := fun h => by
  obtain ⟨o', e', m⟩ := e.mut h
  rw [q] at e'; cases e'
  exact x.notMut m

/-- a step: what is owned by nobody stays; what is owned behind it was owned or is new -/
def Stp (H : Hp) (S : Addr → Prop) (H' : Hp) (S' : Addr → Prop) : Prop :=
  (∀ b o, H b = some o → ¬ S b → H' b = some o) ∧ ∀ b, S' b → H b = none ∨ S b
abbrev plus (S : Addr → Prop) (g : List Addr) : Addr → Prop := fun a => S a ∨ a ∈ g
section
variable {H H1 H2 : Hp} {S S1 S2 : Addr → Prop}
theorem Stp.refl : Stp H S H S := ⟨fun _ _ e _ => e, fun _ h => .inr h⟩
theorem Stp.trans (a : Stp H S H1 S1) (b : Stp H1 S1 H2 S2) : Stp H S H2 S2 := by
  refine ⟨fun c o e n => b.1 c o (a.1 c o e n) fun z => ?_, fun c h => ?_⟩
  · rcases a.2 c z with q | q
    · rw [e] at q; cases q
    · exact n q
  · rcases b.2 c h with q | q
    · by_cases hs : S c
      · exact .inr hs
      · cases e : H c with
        | none => exact .inl rfl
        | some o => rw [a.1 c o e hs] at q; cases q
    · exact a.2 c q
theorem Stp.same {H' : Hp} (k : ∀ b o, H b = some o → H' b = some o) : Stp H S H' S := ⟨fun b o e _ => k b o e, fun _ h => .inr h⟩
theorem Stp.sub (a : Stp H S H1 S1) (h : ∀ b, S2 b → S1 b) : Stp H S H1 S2 := ⟨a.1, fun b q => a.2 b (h b q)⟩
theorem Stp.weak (a : Stp H S H1 S1) (h : ∀ b, S b → S2 b) : Stp H S2 H1 S1 := ⟨fun b o e n => a.1 b o e fun q => n (h b q), fun b q => (a.2 b q).imp id (h b)⟩
/-- a part that is not touched is carried along -/
theorem Stp.frame {g : List Addr} (a : Stp H S H1 S1) : Stp H (plus S g) H1 (plus S1 g) :=
  ⟨fun b o e n => a.1 b o e fun q => n (.inl q), fun b q => q.elim (fun q => (a.2 b q).imp id .inl) fun q => .inr (.inr q)⟩
theorem Stp.new {g : List Addr} (a : Stp H S H1 S1) (n : ∀ b ∈ g, H1 b = none) : Stp H S H1 (plus S1 g) := by
  refine ⟨a.1, fun b q => q.elim (a.2 b) fun q => ?_⟩
  by_cases hs : S b
  · exact .inr hs
  · cases e : H b with
    | none => exact .inl rfl
    | some o =>
      have := a.1 b o e hs
      rw [n b q] at this; cases this
end
theorem EnvR.stay {K : PySem.W.Frag} {A : Nat → Addr} {σ : St} {H H' : Hp} {ρ : Rho} {F : Fp} (e : EnvR K A σ H ρ F) (k : ∀ b o, H b = some o → (Fix o ∨ fsS F b) → H' b = some o) : EnvR K A σ H' ρ F := by
  refine ⟨fun i s d h1 h2 => ?_, e.io, e.emp, e.nd, e.dj, e.len⟩
  obtain ⟨v, q, w⟩ := e.rep i s d h1 h2
  exact ⟨v, q, w.stay fun b o e x => k b o e (x.imp id fun z => ⟨i, z⟩)⟩
/-- a step keeps what is fixed -/
theorem Stp.fix {K : PySem.W.Frag} {A : Nat → Addr} {σ : St} {H H' : Hp} {ρ : Rho} {F : Fp} {S' : Addr → Prop} (st : Stp H (fsS F) H' S') (e : EnvR K A σ H ρ F) : ∀ b o, H b = some o → Fix o → H' b = some o :=
  fun b o h x => st.1 b o h (e.notFix h x)
/-- a temporary's part over a step -/
theorem Ow.step {K : PySem.W.Frag} {A : Nat → Addr} {σ : St} {H H' : Hp} {ρ : Rho} {F : Fp} {S' : Addr → Prop} {v : V} {d : D} {g : List Addr} (w : Ow K H v d g) (dj : ∀ a ∈ g, ¬ fsS F a) (st : Stp H (fsS F) H' S') (e : EnvR K A σ H ρ F) : Ow K H' v d g :=
  w.stay fun b o h x => st.1 b o h (x.elim (fun x => e.notFix h x) fun x => dj b x)
theorem Ow.apart {K : PySem.W.Frag} {H H' : Hp} {S S' : Addr → Prop} {v : V} {d : D} {g : List Addr} (w : Ow K H v d g) (dj : ∀ a ∈ g, ¬ S a) (st : Stp H S H' S') : ∀ a ∈ g, ¬ S' a := fun a ha q => by
  obtain ⟨o, e, _⟩ := w.mut a ha
  rcases st.2 a q with z | z
  · rw [e] at z; cases z
  · exact dj a ha z
end EE

/-! layer E, part B: outcomes, the judgements, expressions -/
namespace EE
open PySem PySem.Spec
open PyProof.Rows hiding St
open L2

inductive Out (α : Type) where
  | ok (a : α) (ρ : Rho) | err (c : Str) (fs : List (Str × D)) (ρ : Rho) | no
def Out.bind {α β : Type} (o : Out α) (k : α → Rho → Out β) : Out β :=
  match o with
  | .ok a ρ => k a ρ
  | .err c fs ρ => .err c fs ρ
  | .no => .no
@[simp] theorem Out.bind_ok {α β : Type} (a : α) (ρ : Rho) (k : α → Rho → Out β) : (Out.ok a ρ).bind k = k a ρ := rfl
@[simp] theorem Out.bind_err {α β : Type} (c : Str) (fs : List (Str × D)) (ρ : Rho) (k : α → Rho → Out β) : (Out.err c fs ρ : Out α).bind k = .err c fs ρ := rfl
@[simp] theorem Out.bind_no {α β : Type} (k : α → Rho → Out β) : (Out.no : Out α).bind k = .no := rfl

/-- a result: a value, or the thing that a slot holds -/
inductive R where
  | val (d : D) | bor (i : Nat)
def slot (ρ : Rho) (i : Nat) : Option D := match ρ[i]? with
  | some s => s.dat
  | none => none
def rd (ρ : Rho) : R → Option D
  | .val d => some d
  | .bor i => slot ρ i
def rds (ρ : Rho) : List R → Option (List D)
  | [] => some []
  | r :: rs => match rd ρ r, rds ρ rs with
    | some d, some ds => some (d :: ds)
    | _, _ => none
@[simp] theorem rd_val (ρ : Rho) (d : D) : rd ρ (.val d) = some d := rfl
@[simp] theorem rd_bor (ρ : Rho) (i : Nat) : rd ρ (.bor i) = slot ρ i := rfl
@[simp] theorem rds_nil (ρ : Rho) : rds ρ [] = some [] := rfl

abbrev FE := Rho → Out R
abbrev FA := Rho → Out (List R)
abbrev FT := Rho → Out Bool

def XR (K : PySem.W.Frag) (H : Hp) (od : Option Addr) (fs : List (Str × D)) : Prop :=
  (od = none ∧ fs = []) ∨ ∃ dx vs, od = some dx ∧ H dx = some (.xd vs) ∧ vs.length = fs.length ∧
    ∀ (i : Nat) (p : Str × V) (q : Str × D), vs[i]? = some p → fs[i]? = some q → p.1 = q.1 ∧ Fz K H p.2 q.2

structure Ct where
  K : PySem.W.Frag
  mg : Str → Option Value
  W : WX
/-- in a comprehension's block nothing is let out -/
def Ct.blk (Γ : Ct) : Ct := ⟨Γ.K, Γ.mg, fun _ _ _ _ => False⟩

def ResR (K : PySem.W.Frag) (σ : L2.St) (H : Hp) (F : Fp) : R → V → List Addr → Prop
  | .val d, v, g => Ow K H v d g ∧ g.Nodup ∧ ∀ a ∈ g, ¬ fsS F a
  | .bor i, v, g => σ[i]? = some (some v) ∧ g = []
inductive ResL (K : PySem.W.Frag) (σ : L2.St) (H : Hp) (F : Fp) : List R → List V → List Addr → Prop where
  | nil : ResL K σ H F [] [] []
  | cons {r : R} {v : V} {g : List Addr} {rs : List R} {vs : List V} {gs : List Addr} : ResR K σ H F r v g → ResL K σ H F rs vs gs → (∀ a ∈ g, a ∉ gs) → ResL K σ H F (r :: rs) (v :: vs) (g ++ gs)
def ResB : L2.St → Hp → Fp → Bool → Bool → List Addr → Prop := fun _ _ _ b c g => b = c ∧ g = []

def Go {α β : Type} (Γ : Ct) (A : Nat → Addr) (rel : L2.St → Hp → Fp → α → β → List Addr → Prop) (σ : L2.St) (H : Hp) (S : Addr → Prop) (o : Out α) (Q : β → Hp → Prop) : Prop :=
  match o with
  | .ok r ρ' => ∀ v H' F' g, EnvR Γ.K A σ H' ρ' F' → Stp H S H' (plus (fsS F') g) → rel σ H' F' r v g → Q v H'
  | .err c fs ρ' => ∀ C od H' F', Γ.mg c = some (.ref C) → EnvR Γ.K A σ H' ρ' F' → Stp H S H' (fsS F') → XR Γ.K H' od fs → Γ.W (.ref C) od σ H'
  | .no => False
def tE (Γ : Ct) (f : FE) : TE := fun σ H Q => ∃ ρ A F, EnvR Γ.K A σ H ρ F ∧ Go Γ A (ResR Γ.K) σ H (fsS F) (f ρ) Q
def tA (Γ : Ct) (f : FA) : TA := fun σ H Q => ∃ ρ A F, EnvR Γ.K A σ H ρ F ∧ Go Γ A (ResL Γ.K) σ H (fsS F) (f ρ) Q
def tT (Γ : Ct) (f : FT) : TT := fun σ H Q => ∃ ρ A F, EnvR Γ.K A σ H ρ F ∧ Go Γ A ResB σ H (fsS F) (f ρ) Q

section
variable {Γ : Ct} {A : Nat → Addr} {σ : L2.St} {H H1 : Hp} {S S1 : Addr → Prop}
theorem Go.bind {α β γ δ : Type} {rel1 : L2.St → Hp → Fp → α → β → List Addr → Prop} {rel2 : L2.St → Hp → Fp → γ → δ → List Addr → Prop} {o : Out α} {k : α → Rho → Out γ} {Q : δ → Hp → Prop} {Q1 : β → Hp → Prop}
    (h : Go Γ A rel2 σ H S (o.bind k) Q) (st : Stp H S H1 S1)
    (hk : ∀ r ρ2 v H2 F2 g, o = .ok r ρ2 → EnvR Γ.K A σ H2 ρ2 F2 → Stp H1 S1 H2 (plus (fsS F2) g) → rel1 σ H2 F2 r v g → Go Γ A rel2 σ H S (k r ρ2) Q → Q1 v H2) : Go Γ A rel1 σ H1 S1 o Q1 := by
  cases o with
  | ok r ρ2 => exact fun v H2 F2 g e s q => hk r ρ2 v H2 F2 g rfl e s q h
  | err c fs ρ2 => exact fun C od H' F' hm e s x => h C od H' F' hm e (st.trans s) x
  | no => exact h
theorem Go.ok {α β : Type} {rel : L2.St → Hp → Fp → α → β → List Addr → Prop} {r : α} {ρ : Rho} {Q : β → Hp → Prop} {v : β} {F1 : Fp} {g : List Addr} (h : Go Γ A rel σ H S (.ok r ρ) Q) (e : EnvR Γ.K A σ H1 ρ F1) (st : Stp H S H1 (plus (fsS F1) g)) (q : rel σ H1 F1 r v g) : Q v H1 := h v H1 F1 g e st q
theorem ResR.step {F F' : Fp} {r : R} {v : V} {g : List Addr} {S' : Addr → Prop} {H' : Hp} {ρ : Rho} (q : ResR Γ.K σ H F r v g) (e : EnvR Γ.K A σ H ρ F) (st : Stp H (fsS F) H' S') (hs : ∀ a, fsS F' a → S' a) : ResR Γ.K σ H' F' r v g := by
  cases r with
  | val d =>
    obtain ⟨w, nd, dj⟩ := q
    exact ⟨w.step dj st e, nd, fun a ha z => w.apart dj st a ha (hs a z)⟩
  | bor i => exact q
theorem ResR.apart {F : Fp} {r : R} {v : V} {g : List Addr} {S' : Addr → Prop} {H' : Hp} (q : ResR Γ.K σ H F r v g) (st : Stp H (fsS F) H' S') : ∀ a ∈ g, ¬ S' a := by
  cases r with
  | val d =>
    obtain ⟨w, nd, dj⟩ := q
    exact w.apart dj st
  | bor i =>
    obtain ⟨_, rfl⟩ := q
    intro a ha; cases ha
/-- what a result holds -/
theorem ResR.read {F : Fp} {r : R} {v : V} {g : List Addr} {ρ : Rho} {d : D} (q : ResR Γ.K σ H F r v g) (e : EnvR Γ.K A σ H ρ F) (h : rd ρ r = some d) : ∃ g', Ow Γ.K H v d g' := by
  cases r with
  | val x =>
    obtain ⟨w, nd, dj⟩ := q
    cases h
    exact ⟨g, w⟩
  | bor i =>
    obtain ⟨h1, _⟩ := q
    have h : slot ρ i = some d := h
    unfold slot at h
    cases e1 : ρ[i]? with
    | none => rw [e1] at h; cases h
    | some s =>
      rw [e1] at h
      obtain ⟨v', q1, w⟩ := e.rep i s d e1 h
      rw [h1] at q1; cases q1
      exact ⟨_, w⟩
def Rds (K : PySem.W.Frag) (H : Hp) : List V → List D → Prop
  | [], [] => True
  | v :: vs, d :: ds => (∃ g, Ow K H v d g) ∧ Rds K H vs ds
  | _, _ => False
theorem ResL.read {F : Fp} {ρ : Rho} (e : EnvR Γ.K A σ H ρ F) {rs : List R} {vs : List V} {g : List Addr} (q : ResL Γ.K σ H F rs vs g) : ∀ {ds : List D}, rds ρ rs = some ds → Rds Γ.K H vs ds := by
  induction q with
  | nil => intro ds h; cases h; trivial
  | @cons r v g rs vs gs q t _ ih =>
    intro ds h
    unfold rds at h
    cases e1 : rd ρ r with
    | none => rw [e1] at h; cases h
    | some d =>
      cases e2 : rds ρ rs with
      | none => rw [e1, e2] at h; cases h
      | some ds' =>
        rw [e1, e2] at h; cases h
        exact ⟨q.read e e1, ih e2⟩
end

theorem plus_nil {S : Addr → Prop} : ∀ b, plus S [] b → S b := fun b q => q.elim id fun z => nomatch z
theorem PE.imp {X : Cx} {e : Expr} {t t' : TE} (h : PE X e t) (k : ∀ σ H Q, t' σ H Q → t σ H Q) : PE X e t' := ⟨fun pins s σ H Q I q => h.run pins s σ H Q I (k _ _ _ q)⟩
theorem PA.imp {X : Cx} {e : List Expr} {t t' : TA} (h : PA X e t) (k : ∀ σ H Q, t' σ H Q → t σ H Q) : PA X e t' := ⟨fun pos pins s σ H Q I q => h.run pos pins s σ H Q I (k _ _ _ q)⟩
theorem PT.imp {X : Cx} {e : Expr} {t t' : TT} (h : PT X e t) (k : ∀ σ H Q, t' σ H Q → t σ H Q) : PT X e t' := ⟨fun pins s σ H Q I q => h.run pins s σ H Q I (k _ _ _ q)⟩
theorem PW.imp {X : Cx} {e : Expr} {t t' : TT} (h : PW X e t) (k : ∀ σ H Q, t' σ H Q → t σ H Q) : PW X e t' := ⟨fun wh pins s σ H Q I q => h.run wh pins s σ H Q I (k _ _ _ q)⟩
theorem PS.imp {X : Cx} {e : Stmt} {t t' : TS} (h : PS X e t) (k : ∀ D σ H, t' D σ H → t D σ H) : PS X e t' := ⟨fun pins s σ H D I q => h.run pins s σ H D I (k _ _ _ q)⟩
theorem PSs.imp {X : Cx} {e : List Stmt} {t t' : TS} (h : PSs X e t) (k : ∀ D σ H, t' D σ H → t D σ H) : PSs X e t' := ⟨fun pins s σ H D I q => h.run pins s σ H D I (k _ _ _ q)⟩
theorem PG.imp {X : Cx} {e : Expr} {t t' : TG} (h : PG X e t) (k : ∀ v σ H Q, t' v σ H Q → t v σ H Q) : PG X e t' := ⟨fun pins s σ H v u Q I r q => h.run pins s σ H v u Q I r (k _ _ _ _ q)⟩
/-- a step that only the bookkeeping sees -/
theorem PE.gh {X : Cx} {e : Expr} {t : TE} (h : PE X e t) : PE X e (fun σ H Q => t σ H fun v H1 => ∀ pins s, Inv X pins σ H1 s → ∃ H2, Inv X pins σ H2 s ∧ Q v H2) := by
  refine ⟨fun pins s σ H Q I q => ?_⟩
  refine thn (h.run pins s σ H _ I q) fun v s1 ⟨x, H1, I1, r1, q1⟩ => ?_
  obtain ⟨H2, I2, q2⟩ := q1 pins s1 I1
  exact ⟨x, H2, I2, r1, q2⟩

/-! ### the judgements in short -/
abbrev XE' (X : Cx) (Γ : Ct) (e : Expr) (f : FE) : Prop := PE X e (tE Γ f)
abbrev XA' (X : Cx) (Γ : Ct) (e : List Expr) (f : FA) : Prop := PA X e (tA Γ f)
abbrev XT' (X : Cx) (Γ : Ct) (e : Expr) (f : FT) : Prop := PT X e (tT Γ f)
/-- the context and the judgement's fit -/
structure Fit (X : Cx) (Γ : Ct) : Prop where
  K : Γ.K = X.K
  mg : Γ.mg = X.mg
  exc : ∀ σ, PassesAt (L2.CX X.prog X.w) X σ (WE Γ.W σ)
  calm : X.calm = true

section
variable {X : Cx} {Γ : Ct}
/-! ### names, constants -/
def fName (i : Nat) : FE := fun ρ => match slot ρ i with
  | some _ => .ok (.bor i) ρ
  | none => .no
theorem x_name {i : Nat} {x : Str} {pos : Pos} (hN : X.N[i]? = some x := by rfl) (hv : Vis X.env.scope x := by first | exact Or.inl rfl | exact Or.inr (Or.inl rfl) | exact Or.inr (Or.inr rfl)) (hd : (x == ("__debug__" : Str)) = false := by decide)
    (hcd : (x == ("__classdict__" : Str)) = false := by decide) : XE' X Γ (.Name x pos) (fName i) := by
  refine PE.imp (pe_var hN hv hd hcd) fun σ H Q ⟨ρ, A, F, e, h⟩ => ?_
  unfold fName at h
  split at h
  · rename_i d hd
    unfold slot at hd
    split at hd
    · rename_i s hs
      obtain ⟨v, hv, w⟩ := e.rep i s d hs hd
      exact ⟨v, hv, Go.ok (g := []) h e (Stp.refl.sub plus_nil) ⟨hv, rfl⟩⟩
    · cases hd
  · exact False.elim h
def fC (d : D) : FE := fun ρ => .ok (.val d) ρ
theorem fC_ok {d : D} {v : V} {σ : L2.St} {H : Hp} {Q : VK} (h : tE Γ (fC d) σ H Q) (w : Fz Γ.K H v d) : Q v H := by
  obtain ⟨ρ, A, F, e, h⟩ := h
  exact Go.ok (g := []) h e (Stp.refl.sub plus_nil) ⟨.fz w, List.nodup_nil, fun a ha => nomatch ha⟩
theorem x_int {i j pos} : XE' X Γ (.Constant (.int i) j pos) (fC (.int i)) := PE.imp pe_int fun _ _ _ h => fC_ok h (.int i)
theorem x_bl {b j pos} : XE' X Γ (.Constant (.bool b) j pos) (fC (.bl b)) := PE.imp pe_bl fun _ _ _ h => fC_ok h (.bl b)
theorem x_non {j pos} : XE' X Γ (.Constant .none j pos) (fC .non) := PE.imp pe_non fun _ _ _ h => fC_ok h .non
theorem x_str {x j pos} : XE' X Γ (.Constant (.str x) j pos) (fC (.str x)) := PE.imp pe_str fun _ _ _ h => fC_ok h (.str x)

/-! ### two places -/
/-- a new value: the heap only grows -/
def PR (K : PySem.W.Frag) (H : Hp) (z : D) (Q : VK) : Prop := ∀ v' H' g, (∀ b o, H b = some o → H' b = some o) → Ow K H' v' z g → g.Nodup → (∀ a ∈ g, H a = none) → Q v' H'
theorem PR.here {K : PySem.W.Frag} {H : Hp} {z : D} {Q : VK} {v : V} (h : PR K H z Q) (w : Fz K H v z) : Q v H := h v H [] (fun _ _ e => e) (.fz w) List.nodup_nil fun _ h => nomatch h
def rSem2 (K : PySem.W.Frag) (op : D → D → Option D) : R2 := fun v w H Q => ∃ x y z g1 g2, Ow K H v x g1 ∧ Ow K H w y g2 ∧ op x y = some z ∧ PR K H z Q
def out2 (op : D → D → Option D) (ρ : Rho) (a b : R) : Out R := match rd ρ a, rd ρ b with
  | some x, some y => match op x y with
    | some z => .ok (.val z) ρ
    | none => .no
  | _, _ => .no
def fOp2 (op : D → D → Option D) (fa fb : FE) : FE := fun ρ => (fa ρ).bind fun a ρ1 => (fb ρ1).bind fun b ρ2 => out2 op ρ2 a b
/-- the end of an operation that only reads and makes something new -/
theorem Go.new {A : Nat → Addr} {σ : L2.St} {H H1 : Hp} {S : Addr → Prop} {ρ : Rho} {F : Fp} {z : D} {Q : VK} {g0 : List Addr} (h : Go Γ A (ResR Γ.K) σ H S (.ok (.val z) ρ) Q) (e : EnvR Γ.K A σ H1 ρ F) (st : Stp H S H1 (plus (fsS F) g0)) : PR Γ.K H1 z Q := by
  intro v' H' g k w nd nw
  refine h v' H' F g (e.stay fun b o q _ => k b o q) ?_ ⟨w, nd, fun a ha q => ?_⟩
  · exact ((st.sub fun b q => .inl q).new nw).trans (Stp.same k)
  · obtain ⟨o, eo, _⟩ := e.mut q
    rw [nw a ha] at eo; cases eo
theorem op2_go {op : D → D → Option D} {fa fb : FE} {r : R2} (hr : ∀ v w H Q, rSem2 Γ.K op v w H Q → r v w H Q) (σ : L2.St) (H : Hp) (Q : VK) (h : tE Γ (fOp2 op fa fb) σ H Q) : tOp r (tE Γ fa) (tE Γ fb) σ H Q := by
  obtain ⟨ρ, A, F, e, h⟩ := h
  refine ⟨ρ, A, F, e, Go.bind h Stp.refl fun a ρ1 v H1 F1 g1 _ e1 st1 q1 h1 => ?_⟩
  refine ⟨ρ1, A, F1, e1, Go.bind h1 (st1.sub fun b q => .inl q) fun b ρ2 w H2 F2 g2 _ e2 st2 q2 h2 => ?_⟩
  unfold out2 at h2
  split at h2
  · rename_i x y hx hy
    split at h2
    · rename_i z hz
      obtain ⟨ga, wa⟩ := (q1.step (F' := F2) e1 st2 fun a z => .inl z).read e2 hx
      obtain ⟨gb, wb⟩ := q2.read e2 hy
      exact hr v w H2 Q ⟨x, y, z, ga, gb, wa, wb, hz, h2.new e2 ((st1.sub fun b q => .inl q).trans st2)⟩
    · exact False.elim h2
  · exact False.elim h2
theorem x_bin {op : Operator} {r : R2} {sem : D → D → Option D} {a b : Expr} {fa fb : FE} {pos : Pos} (ho : OpR X (binaryOp op) r) (hr : ∀ v w H Q, rSem2 Γ.K sem v w H Q → r v w H Q) (ha : XE' X Γ a fa) (hb : XE' X Γ b fb) : XE' X Γ (.BinOp a op b pos) (fOp2 sem fa fb) :=
  PE.imp (pe_op ho ha hb) (op2_go hr)
theorem x_cmp {op : CmpOp} {r : R2} {sem : D → D → Option D} {a b : Expr} {fa fb : FE} {pos : Pos} (ho : OpR X (compareOp op) r) (hr : ∀ v w H Q, rSem2 Γ.K sem v w H Q → r v w H Q) (ha : XE' X Γ a fa) (hb : XE' X Γ b fb) (hm : behindInMarks op b = false) : XE' X Γ (.Compare a [op] [b] pos) (fOp2 sem fa fb) :=
  PE.imp (pe_cmpR ho ha hb hm) (op2_go hr)
theorem x_ix {r : R2} {sem : D → D → Option D} {a b : Expr} {fa fb : FE} {pos : Pos} (ho : IxR X r) (hr : ∀ v w H Q, rSem2 Γ.K sem v w H Q → r v w H Q) (ha : XE' X Γ a fa) (hb : XE' X Γ b fb) (hs : PlainIx b := by exact fun _ _ => rfl) : XE' X Γ (.Subscript a b pos) (fOp2 sem fa fb) :=
  PE.imp (pe_ix ho ha hb hs) (op2_go hr)
/-! ### one place -/
def rSem1 (K : PySem.W.Frag) (op : D → Option D) : V → Hp → VK → Prop := fun v H Q => ∃ x z g, Ow K H v x g ∧ op x = some z ∧ PR K H z Q
def out1 (op : D → Option D) (ρ : Rho) (a : R) : Out R := match rd ρ a with
  | some x => match op x with
    | some z => .ok (.val z) ρ
    | none => .no
  | _ => .no
def fOp1 (op : D → Option D) (fa : FE) : FE := fun ρ => (fa ρ).bind fun a ρ1 => out1 op ρ1 a
theorem op1_go {op : D → Option D} {fa : FE} {r : V → Hp → VK → Prop} (hr : ∀ v H Q, rSem1 Γ.K op v H Q → r v H Q) (σ : L2.St) (H : Hp) (Q : VK) (h : tE Γ (fOp1 op fa) σ H Q) : tUn r (tE Γ fa) σ H Q := by
  obtain ⟨ρ, A, F, e, h⟩ := h
  refine ⟨ρ, A, F, e, Go.bind h Stp.refl fun a ρ1 v H1 F1 g1 _ e1 st1 q1 h1 => ?_⟩
  unfold out1 at h1
  split at h1
  · rename_i x hx
    split at h1
    · rename_i z hz
      obtain ⟨ga, wa⟩ := q1.read e1 hx
      exact hr v H1 Q ⟨x, z, ga, wa, hz, h1.new e1 st1⟩
    · exact False.elim h1
  · exact False.elim h1
theorem x_un {op : UnaryOp} {r : V → Hp → VK → Prop} {sem : D → Option D} {a : Expr} {fa : FE} {pos : Pos} (ho : UnR X (unaryOp op) r) (hr : ∀ v H Q, rSem1 Γ.K sem v H Q → r v H Q) (ha : XE' X Γ a fa) : XE' X Γ (.UnaryOp op a pos) (fOp1 sem fa) :=
  PE.imp (pe_un ho ha) (op1_go hr)

/-! ### arguments -/
def faNil : FA := fun ρ => .ok [] ρ
def faCons (f : FE) (fs : FA) : FA := fun ρ => (f ρ).bind fun r ρ1 => (fs ρ1).bind fun rs ρ2 => .ok (r :: rs) ρ2
theorem xa_nil : XA' X Γ [] faNil := by
  refine PA.imp pa_nil fun σ H Q ⟨ρ, A, F, e, h⟩ => ?_
  exact Go.ok (g := []) h e (Stp.refl.sub plus_nil) .nil
theorem xa_cons {e : Expr} {es : List Expr} {f : FE} {fs : FA} (ha : XE' X Γ e f) (hr : XA' X Γ es fs) (hs : starEach (e :: es) X.env = (false, eval e X.env) :: starEach es X.env := by rfl) : XA' X Γ (e :: es) (faCons f fs) := by
  refine PA.imp (pa_cons ha hr hs) fun σ H Q ⟨ρ, A, F, e, h⟩ => ?_
  refine ⟨ρ, A, F, e, Go.bind h Stp.refl fun a ρ1 v H1 F1 g1 _ e1 st1 q1 h1 => ?_⟩
  refine ⟨ρ1, A, F1, e1, Go.bind h1 (st1.sub fun b q => .inl q) fun rs ρ2 vs H2 F2 g2 _ e2 st2 q2 h2 => ?_⟩
  have st2' : Stp H1 (plus (fsS F1) g1) H2 (plus (fsS F2) (g1 ++ g2)) := st2.frame.sub fun b q => by
    rcases q with q | q
    · exact .inl (.inl q)
    · rcases List.mem_append.mp q with q | q
      · exact .inr q
      · exact .inl (.inr q)
  exact Go.ok h2 e2 (st1.trans st2') (.cons (q1.step e1 st2 fun a z => .inl z) q2 fun a ha z => q1.apart st2 a ha (.inr z))
/-! ### built-in functions that read -/
def rSemL (K : PySem.W.Frag) (sem : List D → Option D) : List V → Hp → VK → Prop := fun vs H Q => ∃ ds z, Rds K H vs ds ∧ sem ds = some z ∧ PR K H z Q
def outL (sem : List D → Option D) (ρ : Rho) (rs : List R) : Out R := match rds ρ rs with
  | some ds => match sem ds with
    | some z => .ok (.val z) ρ
    | none => .no
  | none => .no
def fCall (sem : List D → Option D) (fs : FA) : FE := fun ρ => (fs ρ).bind fun rs ρ1 => outL sem ρ1 rs
theorem call_go {sem : List D → Option D} {fs : FA} {r : List V → Hp → VK → Prop} (hr : ∀ v H Q, rSemL Γ.K sem v H Q → r v H Q) (σ : L2.St) (H : Hp) (Q : VK) (h : tE Γ (fCall sem fs) σ H Q) : tCB r (tA Γ fs) σ H Q := by
  obtain ⟨ρ, A, F, e, h⟩ := h
  refine ⟨ρ, A, F, e, Go.bind h Stp.refl fun rs ρ1 vs H1 F1 g1 _ e1 st1 q1 h1 => ?_⟩
  unfold outL at h1
  split at h1
  · rename_i ds hx
    split at h1
    · rename_i z hz
      exact hr vs H1 Q ⟨ds, z, q1.read e1 hx, hz, h1.new e1 st1⟩
    · exact False.elim h1
  · exact False.elim h1
theorem x_callB {x : Str} {id : String} {r : List V → Hp → VK → Prop} {sem : List D → Option D} {e : Expr} {es : List Expr} {fs : FA} {p pos : Pos} (hc : CallR X (.builtin id) r) (hr : ∀ v H Q, rSemL Γ.K sem v H Q → r v H Q) (hg : Gl X x) (hm : X.mg x = none) (hv : bootBuiltins x = some (.builtin id))
    (ha : XA' X Γ (e :: es) fs) (hn : x ≠ "__name__" := by decide) (hdb : (x == ("__debug__" : Str)) = false := by decide)
    (he : starEach (e :: es) X.env = (false, eval e X.env) :: starEach es X.env := by rfl) (hpl : (backTo pos (starEach es X.env)).any (·.1) = false := by rfl) : XE' X Γ (.Call (.Name x p) (e :: es) [] pos) (fCall sem fs) :=
  PE.imp (pe_callB hc hg hm hv ha hn hdb he hpl) (call_go hr)
theorem x_callTy {x : Str} {T : String} {r : List V → Hp → VK → Prop} {sem : List D → Option D} {e : Expr} {es : List Expr} {fs : FA} {p pos : Pos} (hc : CallR X (.type T) r) (hr : ∀ v H Q, rSemL Γ.K sem v H Q → r v H Q) (hg : Gl X x) (hm : X.mg x = none) (hv : bootBuiltins x = some (.type T))
    (ha : XA' X Γ (e :: es) fs) (hn : x ≠ "__name__" := by decide) (hdb : (x == ("__debug__" : Str)) = false := by decide)
    (he : starEach (e :: es) X.env = (false, eval e X.env) :: starEach es X.env := by rfl) (hpl : (backTo pos (starEach es X.env)).any (·.1) = false := by rfl) : XE' X Γ (.Call (.Name x p) (e :: es) [] pos) (fCall sem fs) :=
  PE.imp (pe_callTy hc hg hm hv ha hn hdb he hpl) (call_go hr)
end
end EE

/-! layer E, part C: slots changed, owning, displays, tests, choices -/
namespace EE
open PySem PySem.Spec
open PyProof.Rows hiding St
open L2

def Fp.put (F : Fp) (i : Nat) (g : List Addr) : Fp := fun j => if j = i then g else F j
theorem Fp.put_same {F : Fp} {i : Nat} {g : List Addr} : F.put i g i = g := by unfold Fp.put; rw [if_pos rfl]
theorem Fp.put_ne {F : Fp} {i j : Nat} {g : List Addr} (h : j ≠ i) : F.put i g j = F j := by unfold Fp.put; rw [if_neg h]
theorem Fp.put_sub {F : Fp} {i : Nat} {g : List Addr} {b : Addr} (h : fsS (F.put i g) b) : plus (fsS F) g b := by
  obtain ⟨j, h⟩ := h
  by_cases hj : j = i
  · subst hj; rw [Fp.put_same] at h; exact .inr h
  · rw [Fp.put_ne hj] at h; exact .inl ⟨j, h⟩
section
variable {K : PySem.W.Frag} {A : Nat → Addr} {σ σ' : L2.St} {H : Hp} {ρ : Rho} {F : Fp} {i : Nat} {v : V} {d : D} {g : List Addr}
/-- a slot is stored -/
theorem EnvR.put {s' : Sl} (e : EnvR K A σ H ρ F) (hi : i < ρ.length) (hσ : σ'[i]? = some (some v)) (hσ' : ∀ j, j ≠ i → σ'[j]? = σ[j]?) (hs : s'.dat = some d) (w : Ow K H v d g) (nd : g.Nodup) (dj : ∀ a ∈ g, ∀ j, j ≠ i → a ∉ F j)
    (hio : ∀ x, s' = .io x → v = .ref (A i)) (hl : σ'.length = σ.length) : EnvR K A σ' H (ρ.set i s') (F.put i g) := by
  refine ⟨fun j s x h1 h2 => ?_, fun j x h1 => ?_, fun j a ha => ?_, fun j => ?_, fun j k a h1 h2 => ?_, by rw [List.length_set, hl]; exact e.len⟩
  · by_cases hj : j = i
    · subst hj
      rw [List.getElem?_set_self hi] at h1
      cases h1
      rw [hs] at h2; cases h2
      rw [Fp.put_same]
      exact ⟨v, hσ, w⟩
    · rw [List.getElem?_set_ne (Ne.symm hj)] at h1
      rw [Fp.put_ne hj, hσ' j hj]
      exact e.rep j s x h1 h2
  · by_cases hj : j = i
    · subst hj
      rw [List.getElem?_set_self hi] at h1
      cases h1
      rw [hσ, hio x rfl]
    · rw [List.getElem?_set_ne (Ne.symm hj)] at h1
      rw [hσ' j hj]
      exact e.io j x h1
  · by_cases hj : j = i
    · subst hj
      exact ⟨s', d, List.getElem?_set_self hi, hs⟩
    · rw [Fp.put_ne hj] at ha
      rw [List.getElem?_set_ne (Ne.symm hj)]
      exact e.emp j a ha
  · by_cases hj : j = i
    · subst hj; rw [Fp.put_same]; exact nd
    · rw [Fp.put_ne hj]; exact e.nd j
  · by_cases hj : j = i
    · subst hj
      rw [Fp.put_same] at h1
      by_cases hk : k = j
      · exact hk.symm
      · rw [Fp.put_ne hk] at h2
        exact absurd h2 (dj a h1 k hk)
    · rw [Fp.put_ne hj] at h1
      by_cases hk : k = i
      · subst hk
        rw [Fp.put_same] at h2
        exact absurd h1 (dj a h2 j hj)
      · rw [Fp.put_ne hk] at h2
        exact e.dj j k a h1 h2
theorem slot_at (h : slot ρ i = some d) : ∃ s, ρ[i]? = some s ∧ s.dat = some d ∧ i < ρ.length := by
  unfold slot at h
  split at h
  · rename_i s hs
    exact ⟨s, hs, h, (List.getElem?_eq_some_iff.mp hs).1⟩
  · cases h
end

section
variable {X : Cx} {Γ : Ct}
/-! ### a value of one's own: what a slot holds is frozen -/
def ownB (i : Nat) (ρ : Rho) : Out R := match ρ[i]? with
  | some (.dt d) => if d.isF then .ok (.val d) ρ else .ok (.val d.frz) (ρ.set i (.dt d.frz))
  | some (.io d) => if d.isF then .ok (.val d) ρ else .no
  | _ => .no
def own (r : R) (ρ : Rho) : Out R := match r with
  | .val d => .ok (.val d) ρ
  | .bor i => ownB i ρ
def fOwn (f : FE) : FE := fun ρ => (f ρ).bind own
theorem x_own {e : Expr} {f : FE} (h : XE' X Γ e f) : XE' X Γ e (fOwn f) := by
  refine PE.imp (PE.gh h) fun σ H Q ⟨ρ, A, F, e, h⟩ => ?_
  refine ⟨ρ, A, F, e, Go.bind h Stp.refl fun r ρ1 v H1 F1 g1 _ e1 st1 q1 h1 pins s I => ?_⟩
  cases r with
  | val d => exact ⟨H1, I, h1.ok e1 st1 q1⟩
  | bor i =>
    obtain ⟨hv, rfl⟩ := q1
    have h1 : Go Γ A (ResR Γ.K) σ H (fsS F) (ownB i ρ1) Q := h1
    unfold ownB at h1
    have st0 : Stp H (fsS F) H1 (fsS F1) := st1.sub fun b q => .inl q
    split at h1
    · rename_i d hd
      obtain ⟨v', hv', w⟩ := e1.rep i _ d hd rfl
      rw [hv] at hv'; cases hv'
      split at h1
      · rename_i hf
        exact ⟨H1, I, Go.ok (g := []) h1 e1 st1 ⟨.fz (w.isF hf).1, List.nodup_nil, fun a ha => nomatch ha⟩⟩
      · obtain ⟨H2, I2, k2, l2⟩ := lockAll (F1 i) H1 I w.mut
        have kf : ∀ b o, H1 b = some o → Fix o → H2 b = some o := fun b o eo x => by
          rw [k2 b fun z => e1.notFix eo x ⟨i, z⟩]; exact eo
        have wz := w.frz kf l2
        have hi := (List.getElem?_eq_some_iff.mp hd).1
        have eA : EnvR Γ.K A σ H2 (ρ1.set i (.dt d.frz)) (F1.put i []) := by
          refine ⟨fun j s x h3 h4 => ?_, fun j x h3 => ?_, fun j a ha => ?_, fun j => ?_, fun j k a h3 h4 => ?_, by rw [List.length_set]; exact e1.len⟩
          · by_cases hj : j = i
            · subst hj
              rw [List.getElem?_set_self hi] at h3
              cases h3; cases h4
              rw [Fp.put_same]
              exact ⟨v, hv, .fz wz⟩
            · rw [List.getElem?_set_ne (Ne.symm hj)] at h3
              rw [Fp.put_ne hj]
              obtain ⟨u, hu, wu⟩ := e1.rep j s x h3 h4
              refine ⟨u, hu, wu.stay fun b o eo z => ?_⟩
              rcases z with z | z
              · exact kf b o eo z
              · rw [k2 b fun z' => hj (e1.dj j i b z z')]; exact eo
          · by_cases hj : j = i
            · subst hj
              rw [List.getElem?_set_self hi] at h3
              cases h3
            · rw [List.getElem?_set_ne (Ne.symm hj)] at h3
              exact e1.io j x h3
          · by_cases hj : j = i
            · subst hj; rw [Fp.put_same] at ha; cases ha
            · rw [Fp.put_ne hj] at ha
              rw [List.getElem?_set_ne (Ne.symm hj)]
              exact e1.emp j a ha
          · by_cases hj : j = i
            · subst hj; rw [Fp.put_same]; exact List.nodup_nil
            · rw [Fp.put_ne hj]; exact e1.nd j
          · by_cases hj : j = i
            · subst hj; rw [Fp.put_same] at h3; cases h3
            · rw [Fp.put_ne hj] at h3
              by_cases hk : k = i
              · subst hk; rw [Fp.put_same] at h4; cases h4
              · rw [Fp.put_ne hk] at h4
                exact e1.dj j k a h3 h4
        have stA : Stp H1 (fsS F1) H2 (plus (fsS (F1.put i [])) []) := by
          refine ⟨fun b o eo n => ?_, fun b z => .inr ?_⟩
          · rw [k2 b fun z => n ⟨i, z⟩]; exact eo
          · rcases z with z | z
            · exact (Fp.put_sub z).elim id fun z => nomatch z
            · cases z
        exact ⟨H2, I2, Go.ok (g := []) h1 eA (st0.trans stA) ⟨.fz wz, List.nodup_nil, fun a ha => nomatch ha⟩⟩
    · rename_i d hd
      obtain ⟨v', hv', w⟩ := e1.rep i _ d hd rfl
      rw [hv] at hv'; cases hv'
      split at h1
      · rename_i hf
        exact ⟨H1, I, Go.ok (g := []) h1 e1 st1 ⟨.fz (w.isF hf).1, List.nodup_nil, fun a ha => nomatch ha⟩⟩
      · exact False.elim h1
    · exact False.elim h1
/-- .. and a new thing is frozen, too -/
def fzz (r : R) (ρ : Rho) : Out R := match r with
  | .val d => if d.isF then .ok (.val d) ρ else .ok (.val d.frz) ρ
  | .bor _ => .no
def fFz (f : FE) : FE := fun ρ => (fOwn f ρ).bind fzz
theorem x_fz {e : Expr} {f : FE} (h : XE' X Γ e f) : XE' X Γ e (fFz f) := by
  refine PE.imp (PE.gh (x_own h)) fun σ H Q ⟨ρ, A, F, e, h⟩ => ?_
  refine ⟨ρ, A, F, e, Go.bind h Stp.refl fun r ρ1 v H1 F1 g1 _ e1 st1 q1 h1 pins s I => ?_⟩
  cases r with
  | bor i => exact False.elim h1
  | val d =>
    obtain ⟨w, nd, dj⟩ := q1
    unfold fzz at h1
    simp only at h1
    split at h1
    · exact ⟨H1, I, h1.ok e1 st1 ⟨w, nd, dj⟩⟩
    · obtain ⟨H2, I2, k2, l2⟩ := lockAll g1 H1 I w.mut
      have kf : ∀ b o, H1 b = some o → Fix o → H2 b = some o := fun b o eo x => by
        rw [k2 b fun z => ?_]
        · exact eo
        · obtain ⟨o', eo', m⟩ := w.mut b z
          rw [eo] at eo'; cases eo'
          exact x.notMut m
      have wz := w.frz kf l2
      refine ⟨H2, I2, Go.ok (g := []) (F1 := F1) h1 (e1.stay fun b o eo z => ?_) ?_ ⟨.fz wz, List.nodup_nil, fun a ha => nomatch ha⟩⟩
      · rcases z with z | z
        · exact kf b o eo z
        · rw [k2 b fun z' => dj b z' z]; exact eo
      · refine ⟨fun b o eo n => ?_, fun b z => ?_⟩
        · rw [k2 b fun z' => ?_]
          · exact st1.1 b o eo n
          · rcases st1.2 b (.inr z') with q | q
            · rw [eo] at q; cases q
            · exact n q
        · rcases z with z | z
          · exact st1.2 b (.inl z)
          · cases z

/-! ### displays -/
def valsOf : List R → Option (List D)
  | [] => some []
  | .val d :: rs => (match valsOf rs with | some ds => some (d :: ds) | none => none)
  | .bor _ :: _ => none
theorem ResL.vals {K : PySem.W.Frag} {σ : L2.St} {H : Hp} {F : Fp} {rs : List R} {vs : List V} {g : List Addr} (q : ResL K σ H F rs vs g) : ∀ {ds : List D}, valsOf rs = some ds →
    ∃ fs : List (List Addr), fs.flatten = g ∧ vs.length = ds.length ∧ fs.length = ds.length ∧ g.Nodup ∧ (∀ a ∈ g, ¬ fsS F a) ∧ ∀ (i : Nat) v d f, vs[i]? = some v → ds[i]? = some d → fs[i]? = some f → Ow K H v d f := by
  induction q with
  | nil => intro ds h; cases h; exact ⟨[], rfl, rfl, rfl, List.nodup_nil, (fun a ha => nomatch ha), fun i v d f e => nomatch e⟩
  | @cons r v g rs vs gs q t dj ih =>
    intro ds h
    cases r with
    | bor i => exact nomatch h
    | val d =>
      unfold valsOf at h
      cases e2 : valsOf rs with
      | none => rw [e2] at h; cases h
      | some ds' =>
        rw [e2] at h; cases h
        obtain ⟨fs, ef, l1, l2, nd, ds, c⟩ := ih e2
        obtain ⟨w, nd1, dj1⟩ := q
        refine ⟨g :: fs, by rw [List.flatten_cons, ef], by simp [l1], by simp [l2], List.nodup_append.mpr ⟨nd1, nd, fun a h1 b h2 e => dj a h1 (e ▸ h2)⟩, fun a ha => ?_, fun i v d f e1 e2 e3 => ?_⟩
        · rcases List.mem_append.mp ha with ha | ha
          · exact dj1 a ha
          · exact ds a ha
        · cases i with
          | zero => simp at e1 e2 e3; subst e1; subst e2; subst e3; exact w
          | succ i => exact c i v d f (by simpa using e1) (by simpa using e2) (by simpa using e3)
def outTup (rs : List R) (ρ : Rho) : Out R := match valsOf rs with
  | some ds => if ds.length ≤ sizeLine then .ok (.val (.nd .tup ds)) ρ else .no
  | none => .no
def outLst (rs : List R) (ρ : Rho) : Out R := match valsOf rs with
  | some ds => if ds.length ≤ sizeLine then .ok (.val (.nd (.lst true) ds)) ρ else .no
  | none => .no
def fTup (fs : FA) : FE := fun ρ => (fs ρ).bind outTup
def fLst (fs : FA) : FE := fun ρ => (fs ρ).bind outLst
theorem upd_keeps {H : Hp} {p : Addr} {o : HO} (np : H p = none) : ∀ b u, H b = some u → upd H p o b = some u := fun b u e => by rw [upd_ne (ne_of_none e np)]; exact e
theorem x_tup {es : List Expr} {fs : FA} {x1 : Nat} {pos : Pos} (h : XA' X Γ es fs) : XE' X Γ (.Tuple es x1 pos) (fTup fs) := by
  refine PE.imp (pe_tup h) fun σ H Q ⟨ρ, A, F, e, h⟩ => ?_
  refine ⟨ρ, A, F, e, Go.bind h Stp.refl fun rs ρ1 vs H1 F1 g1 _ e1 st1 q1 h1 => ?_⟩
  unfold outTup at h1
  split at h1
  · rename_i ds hds
    split at h1
    · rename_i hz
      obtain ⟨fs, rfl, l1, l2, nd, dj, c⟩ := q1.vals hds
      refine ⟨by rw [l1]; exact hz, fun p np => ?_⟩
      have k := upd_keeps (o := .tup vs) np
      refine Go.ok (g := fs.flatten) h1 (e1.stay fun b o q _ => k b o q) (st1.trans (Stp.same k)) ⟨?_, nd, dj⟩
      exact .tup (SqT.of upd_same) l1 l2 fun i v d f e1 e2 e3 => (c i v d f e1 e2 e3).stay fun b o q _ => k b o q
    · exact False.elim h1
  · exact False.elim h1
theorem x_lst {es : List Expr} {fs : FA} {pos : Pos} (h : XA' X Γ es fs) : XE' X Γ (.List es pos) (fLst fs) := by
  refine PE.imp (pe_lst h) fun σ H Q ⟨ρ, A, F, e, h⟩ => ?_
  refine ⟨ρ, A, F, e, Go.bind h Stp.refl fun rs ρ1 vs H1 F1 g1 _ e1 st1 q1 h1 => ?_⟩
  unfold outLst at h1
  split at h1
  · rename_i ds hds
    split at h1
    · rename_i hz
      obtain ⟨fs, rfl, l1, l2, nd, dj, c⟩ := q1.vals hds
      refine ⟨by rw [l1]; exact hz, fun p np => ?_⟩
      have k := upd_keeps (o := .lst vs) np
      have np' : p ∉ fs.flatten := fun z => by
        obtain ⟨i, hi, hz'⟩ := List.getElem_of_mem (List.mem_flatten.mp z).choose_spec.1
        obtain ⟨f, hf, hb⟩ := List.mem_flatten.mp z
        obtain ⟨i, hi, ei⟩ := List.getElem_of_mem hf
        obtain ⟨o, eo, _⟩ := (c i (vs[i]'(by omega)) (ds[i]'(by omega)) f (List.getElem?_eq_getElem _) (List.getElem?_eq_getElem _) (by rw [← ei]; exact List.getElem?_eq_getElem hi)).mut p hb
        rw [np] at eo; cases eo
      refine Go.ok (g := p :: fs.flatten) h1 (e1.stay fun b o q _ => k b o q) ?_ ⟨?_, List.nodup_cons.mpr ⟨np', nd⟩, fun a ha z => ?_⟩
      · have s2 : Stp H (fsS F) H1 (plus (fsS F1) (p :: fs.flatten)) := by
          refine ⟨st1.1, fun b z => ?_⟩
          rcases z with z | z
          · exact st1.2 b (.inl z)
          · rcases List.mem_cons.mp z with rfl | z
            · by_cases hs : fsS F b
              · exact .inr hs
              · cases eb : H b with
                | none => exact .inl rfl
                | some o =>
                  have := st1.1 b o eb hs
                  rw [np] at this; cases this
            · exact st1.2 b (.inr z)
        exact s2.trans (Stp.same k)
      · exact .nd (k := .lst true) (show OwAt _ p (.lst true) vs from upd_same) l1 l2 fun i v d f e1 e2 e3 => (c i v d f e1 e2 e3).stay fun b o q _ => k b o q
      · rcases List.mem_cons.mp ha with rfl | ha
        · obtain ⟨o, eo, _⟩ := e1.mut z
          rw [np] at eo; cases eo
        · exact dj a ha z
    · exact False.elim h1
  · exact False.elim h1

/-! ### tests -/
/-- an expression whose value is True or False -/
def tstB (r : R) (ρ : Rho) : Out Bool := match rd ρ r with
  | some (.bl b) => .ok b ρ
  | _ => .no
def fB (f : FE) : FT := fun ρ => (f ρ).bind tstB
theorem Ow.bl {K : PySem.W.Frag} {H : Hp} {v : V} {b : Bool} {g : List Addr} (w : Ow K H v (.bl b) g) : v = .bl b := by
  cases w with
  | fz h => cases h; rfl
theorem Ow.int {K : PySem.W.Frag} {H : Hp} {v : V} {b : Int} {g : List Addr} (w : Ow K H v (.int b) g) : v = .int b := by
  cases w with
  | fz h => cases h; rfl
theorem Ow.str {K : PySem.W.Frag} {H : Hp} {v : V} {b : Str} {g : List Addr} (w : Ow K H v (.str b) g) : v = .str b := by
  cases w with
  | fz h => cases h; rfl
theorem Ow.non {K : PySem.W.Frag} {H : Hp} {v : V} {g : List Addr} (w : Ow K H v .non g) : v = .non := by
  cases w with
  | fz h => cases h; rfl
theorem fB_go {f : FE} (σ : L2.St) (H : Hp) (Q : Bool → Hp → Prop) (h : tT Γ (fB f) σ H Q) : tE Γ f σ H fun x H' => ∃ k, x = .bl k ∧ Q k H' := by
  obtain ⟨ρ, A, F, e, h⟩ := h
  refine ⟨ρ, A, F, e, Go.bind h Stp.refl fun r ρ1 v H1 F1 g1 _ e1 st1 q1 h1 => ?_⟩
  unfold tstB at h1
  split at h1
  · rename_i b hb
    obtain ⟨g, w⟩ := q1.read e1 hb
    exact ⟨b, w.bl, Go.ok (g := []) h1 e1 (st1.sub fun c q => .inl (plus_nil c q)) ⟨rfl, rfl⟩⟩
  · exact False.elim h1
/-- a test of such an expression (he by intro _; rfl) -/
theorem xt_val {e : Expr} {f : FE} (h : XE' X Γ e f) (he : ∀ whole, isTrue e X.env whole = (do let v ← whole; standAt e.pos; holding [v] (truthy v)) := by intro _; rfl) : XT' X Γ e (fB f) :=
  PT.imp (pt_val h he) (fB_go (Γ := Γ))
theorem xt_cmp {op : CmpOp} {r : R2} {sem : D → D → Option D} {a b : Expr} {fa fb : FE} {pos : Pos} (ho : OpR X (compareOp op) r) (hr : ∀ v w H Q, rSem2 Γ.K sem v w H Q → r v w H Q) (ha : XE' X Γ a fa) (hb : XE' X Γ b fb) (hm : behindInMarks op b = false) : XT' X Γ (.Compare a [op] [b] pos) (fB (fOp2 sem fa fb)) :=
  PT.imp (pt_cmpR ho ha hb hm) fun σ H Q h => op2_go hr σ H _ (fB_go σ H Q h)
def ftNot (f : FT) : FT := fun ρ => (f ρ).bind fun b ρ1 => .ok (!b) ρ1
def ftAnd (f g : FT) : FT := fun ρ => (f ρ).bind fun b ρ1 => if b then g ρ1 else .ok false ρ1
def ftOr (f g : FT) : FT := fun ρ => (f ρ).bind fun b ρ1 => if b then .ok true ρ1 else g ρ1
abbrev XW' (X : Cx) (Γ : Ct) (e : Expr) (f : FT) : Prop := PW X e (tT Γ f)
theorem tT_bind {f : FT} {k : Bool → Rho → Out Bool} {σ : L2.St} {H : Hp} {Q : Bool → Hp → Prop} {Q1 : Bool → Hp → Prop} (h : tT Γ (fun ρ => (f ρ).bind k) σ H Q)
    (hk : ∀ b A S H1 ρ1 F1, EnvR Γ.K A σ H1 ρ1 F1 → Stp H S H1 (fsS F1) → Go Γ A ResB σ H S (k b ρ1) Q → Q1 b H1) : tT Γ f σ H Q1 := by
  obtain ⟨ρ, A, F, e, h⟩ := h
  refine ⟨ρ, A, F, e, Go.bind h Stp.refl fun r ρ1 v H1 F1 g1 _ e1 st1 q1 h1 => ?_⟩
  obtain ⟨rfl, rfl⟩ := q1
  exact hk r A (fsS F) H1 ρ1 F1 e1 (st1.sub fun b q => .inl q) h1
theorem Go.shift {α β : Type} {A : Nat → Addr} {rel : L2.St → Hp → Fp → α → β → List Addr → Prop} {σ : L2.St} {H H1 : Hp} {S S1 : Addr → Prop} {o : Out α} {Q : β → Hp → Prop} (h : Go Γ A rel σ H S o Q) (st : Stp H S H1 S1) : Go Γ A rel σ H1 S1 o Q := by
  cases o with
  | ok r ρ2 => exact fun v H2 F2 g e s q => h v H2 F2 g e (st.trans s) q
  | err c fs ρ2 => exact fun C od H' F' hm e s x => h C od H' F' hm e (st.trans s) x
  | no => exact h
theorem xt_not {e : Expr} {f : FT} {pos : Pos} (h : XT' X Γ e f) : XT' X Γ (.UnaryOp .Not e pos) (ftNot f) :=
  PT.imp (pt_not h) fun σ H Q h => tT_bind h fun b A S H1 ρ1 F1 e1 st h1 => Go.ok (g := []) h1 e1 (st.sub plus_nil) ⟨rfl, rfl⟩
theorem xw_and1 {e : Expr} {f : FT} {pos : Pos} (h : XT' X Γ e f) : XW' X Γ (.BoolOp .And [e] pos) f := pw_and1 h
theorem xw_or1 {e : Expr} {f : FT} {pos : Pos} (h : XT' X Γ e f) : XW' X Γ (.BoolOp .Or [e] pos) f := pw_or1 h
theorem xw_and {a b : Expr} {rest : List Expr} {f g : FT} {pos : Pos} (ha : XT' X Γ a f) (hb : XW' X Γ (.BoolOp .And (b :: rest) pos) g) : XW' X Γ (.BoolOp .And (a :: b :: rest) pos) (ftAnd f g) := by
  refine PW.imp (pw_and ha hb) fun σ H Q h => tT_bind h fun b A S H1 ρ1 F1 e1 st h1 => ?_
  cases b with
  | true => exact ⟨ρ1, A, F1, e1, h1.shift st⟩
  | false => exact Go.ok (g := []) h1 e1 (st.sub plus_nil) ⟨rfl, rfl⟩
theorem xw_or {a b : Expr} {rest : List Expr} {f g : FT} {pos : Pos} (ha : XT' X Γ a f) (hb : XW' X Γ (.BoolOp .Or (b :: rest) pos) g) : XW' X Γ (.BoolOp .Or (a :: b :: rest) pos) (ftOr f g) := by
  refine PW.imp (pw_or ha hb) fun σ H Q h => tT_bind h fun b A S H1 ρ1 F1 e1 st h1 => ?_
  cases b with
  | false => exact ⟨ρ1, A, F1, e1, h1.shift st⟩
  | true => exact Go.ok (g := []) h1 e1 (st.sub plus_nil) ⟨rfl, rfl⟩
theorem xt_w {e : Expr} {f : FT} (h : XW' X Γ e f) : XT' X Γ e f := PW.pt h
/-! ### and, or, not as values (True, False) -/
def fAnd (f g : FE) : FE := fun ρ => (fB f ρ).bind fun b ρ1 => if b then g ρ1 else .ok (.val (.bl false)) ρ1
def fOr (f g : FE) : FE := fun ρ => (fB f ρ).bind fun b ρ1 => if b then .ok (.val (.bl true)) ρ1 else g ρ1
def fNot (f : FE) : FE := fun ρ => (fB f ρ).bind fun b ρ1 => .ok (.val (.bl (!b))) ρ1
theorem fB_bind {f : FE} {k : Bool → Rho → Out R} {σ : L2.St} {H : Hp} {Q Q1 : VK} (h : tE Γ (fun ρ => (fB f ρ).bind k) σ H Q)
    (hk : ∀ b A S H1 ρ1 F1, EnvR Γ.K A σ H1 ρ1 F1 → Stp H S H1 (fsS F1) → Go Γ A (ResR Γ.K) σ H S (k b ρ1) Q → Q1 (.bl b) H1) : tE Γ f σ H Q1 := by
  obtain ⟨ρ, A, F, e, h⟩ := h
  have h : Go Γ A (ResR Γ.K) σ H (fsS F) ((f ρ).bind fun r ρ1 => (tstB r ρ1).bind k) Q := by
    have h : Go Γ A (ResR Γ.K) σ H (fsS F) (((f ρ).bind tstB).bind k) Q := h
    cases ho : f ρ with
    | ok r ρ1 => rw [ho] at h; exact h
    | err c fs ρ1 => rw [ho] at h; exact h
    | no => rw [ho] at h; exact h
  refine ⟨ρ, A, F, e, Go.bind h Stp.refl fun r ρ1 v H1 F1 g1 _ e1 st1 q1 h1 => ?_⟩
  unfold tstB at h1
  split at h1
  · rename_i b hb
    obtain ⟨g, w⟩ := q1.read e1 hb
    rw [w.bl]
    exact hk b A (fsS F) H1 ρ1 F1 e1 (st1.sub fun b q => .inl q) h1
  · exact False.elim h1
theorem Go.done {A : Nat → Addr} {σ : L2.St} {H H1 : Hp} {S : Addr → Prop} {ρ1 : Rho} {F1 : Fp} {d : D} {v : V} {Q : VK} (h : Go Γ A (ResR Γ.K) σ H S (.ok (.val d) ρ1) Q) (e1 : EnvR Γ.K A σ H1 ρ1 F1) (st : Stp H S H1 (fsS F1)) (w : Fz Γ.K H1 v d) : Q v H1 :=
  Go.ok (g := []) h e1 (st.sub plus_nil) ⟨.fz w, List.nodup_nil, fun a ha => nomatch ha⟩
theorem x_and1 {op : BoolOp} {e : Expr} {f : FE} {pos : Pos} (h : XE' X Γ e f) : XE' X Γ (.BoolOp op [e] pos) f := pe_one h
theorem x_and {a b : Expr} {rest : List Expr} {f g : FE} {pos : Pos} (ha : XE' X Γ a f) (hb : XE' X Γ (.BoolOp .And (b :: rest) pos) g) : XE' X Γ (.BoolOp .And (a :: b :: rest) pos) (fAnd f g) := by
  refine PE.imp (pe_and ha hb) fun σ H Q h => fB_bind h fun b A S H1 ρ1 F1 e1 st h1 => ⟨b, rfl, ?_⟩
  cases b with
  | true => exact ⟨ρ1, A, F1, e1, h1.shift st⟩
  | false => exact Go.done h1 e1 st (.bl false)
theorem x_or {a b : Expr} {rest : List Expr} {f g : FE} {pos : Pos} (ha : XE' X Γ a f) (hb : XE' X Γ (.BoolOp .Or (b :: rest) pos) g) : XE' X Γ (.BoolOp .Or (a :: b :: rest) pos) (fOr f g) := by
  refine PE.imp (pe_or ha hb) fun σ H Q h => fB_bind h fun b A S H1 ρ1 F1 e1 st h1 => ⟨b, rfl, ?_⟩
  cases b with
  | false => exact ⟨ρ1, A, F1, e1, h1.shift st⟩
  | true => exact Go.done h1 e1 st (.bl true)
theorem x_not {e : Expr} {f : FE} {pos : Pos} (h : XE' X Γ e f) : XE' X Γ (.UnaryOp .Not e pos) (fNot f) :=
  PE.imp (pe_not h) fun σ H Q h => fB_bind h fun b A S H1 ρ1 F1 e1 st h1 => ⟨b, rfl, Go.done h1 e1 st (.bl (!b))⟩
def fIf (t : FT) (f g : FE) : FE := fun ρ => (t ρ).bind fun b ρ1 => if b then f ρ1 else g ρ1
theorem x_if {c a b : Expr} {t : FT} {f g : FE} {pos : Pos} (hc : XT' X Γ c t) (ha : XE' X Γ a f) (hb : XE' X Γ b g) : XE' X Γ (.IfExp c a b pos) (fIf t f g) := by
  refine PE.imp (pe_ifExp hc ha hb) fun σ H Q ⟨ρ, A, F, e, h⟩ => ?_
  refine ⟨ρ, A, F, e, Go.bind h Stp.refl fun r ρ1 v H1 F1 g1 _ e1 st1 q1 h1 => ?_⟩
  obtain ⟨rfl, rfl⟩ := q1
  have st := st1.sub (S2 := fsS F1) fun b q => .inl q
  cases r with
  | true => rw [if_pos rfl] at h1 ⊢; exact ⟨ρ1, A, F1, e1, h1.shift st⟩
  | false => rw [if_neg Bool.false_ne_true] at h1 ⊢; exact ⟨ρ1, A, F1, e1, h1.shift st⟩
end
end EE

/-! layer E, part D: statements, targets, loops -/
namespace EE
open PySem PySem.Spec
open PyProof.Rows hiding St
open L2

inductive Fl where
  | nx | bk | ct | rt (d : D)
abbrev FS := Rho → Out Fl
def GoS (Γ : Ct) (A : Nat → Addr) (H : Hp) (S : Addr → Prop) (o : Out Fl) (E : Ends) : Prop :=
  match o with
  | .ok .nx ρ' => ∀ σ' H' F', EnvR Γ.K A σ' H' ρ' F' → Stp H S H' (fsS F') → E.nx σ' H'
  | .ok .bk ρ' => ∀ σ' H' F', EnvR Γ.K A σ' H' ρ' F' → Stp H S H' (fsS F') → E.bk σ' H'
  | .ok .ct ρ' => ∀ σ' H' F', EnvR Γ.K A σ' H' ρ' F' → Stp H S H' (fsS F') → E.ct σ' H'
  | .ok (.rt d) ρ' => ∀ v σ' H' F' g, EnvR Γ.K A σ' H' ρ' F' → Stp H S H' (plus (fsS F') g) → Ow Γ.K H' v d g → g.Nodup → (∀ a ∈ g, ¬ fsS F' a) → E.rt v H'
  | .err c fs ρ' => ∀ C od σ' H' F', Γ.mg c = some (.ref C) → EnvR Γ.K A σ' H' ρ' F' → Stp H S H' (fsS F') → XR Γ.K H' od fs → Γ.W (.ref C) od σ' H'
  | .no => False
def tS (Γ : Ct) (f : FS) : TS := fun E σ H => ∃ ρ A F, EnvR Γ.K A σ H ρ F ∧ GoS Γ A H (fsS F) (f ρ) E
abbrev XS' (X : Cx) (Γ : Ct) (s : Stmt) (f : FS) : Prop := PS X s (tS Γ f)
abbrev XSs' (X : Cx) (Γ : Ct) (s : List Stmt) (f : FS) : Prop := PSs X s (tS Γ f)
theorem GoS.shift {Γ : Ct} {A : Nat → Addr} {H H1 : Hp} {S S1 : Addr → Prop} {o : Out Fl} {E : Ends} (h : GoS Γ A H S o E) (st : Stp H S H1 S1) : GoS Γ A H1 S1 o E := by
  cases o with
  | ok r ρ2 =>
    cases r with
    | nx => exact fun σ' H' F' e s => h σ' H' F' e (st.trans s)
    | bk => exact fun σ' H' F' e s => h σ' H' F' e (st.trans s)
    | ct => exact fun σ' H' F' e s => h σ' H' F' e (st.trans s)
    | rt d => exact fun v σ' H' F' g e s => h v σ' H' F' g e (st.trans s)
  | err c fs ρ2 => exact fun C od σ' H' F' hm e s x => h C od σ' H' F' hm e (st.trans s) x
  | no => exact h
/-- an expression's outcome within a statement -/
theorem Go.bindS {Γ : Ct} {A : Nat → Addr} {σ : L2.St} {H H1 : Hp} {S S1 : Addr → Prop} {α β : Type} {rel1 : L2.St → Hp → Fp → α → β → List Addr → Prop} {o : Out α} {k : α → Rho → Out Fl} {E : Ends} {Q1 : β → Hp → Prop}
    (h : GoS Γ A H S (o.bind k) E) (st : Stp H S H1 S1)
    (hk : ∀ r ρ2 v H2 F2 g, o = .ok r ρ2 → EnvR Γ.K A σ H2 ρ2 F2 → Stp H1 S1 H2 (plus (fsS F2) g) → rel1 σ H2 F2 r v g → GoS Γ A H S (k r ρ2) E → Q1 v H2) : Go Γ A rel1 σ H1 S1 o Q1 := by
  cases o with
  | ok r ρ2 => exact fun v H2 F2 g e s q => hk r ρ2 v H2 F2 g rfl e s q h
  | err c fs ρ2 => exact fun C od H' F' hm e s x => h C od σ H' F' hm e (st.trans s) x
  | no => exact h

section
variable {X : Cx} {Γ : Ct}
/-! ### blocks -/
def sq (o : Out Fl) (g : FS) : Out Fl := match o with
  | .ok .nx ρ1 => g ρ1
  | o => o
@[simp] theorem sq_nx (ρ : Rho) (g : FS) : sq (.ok .nx ρ) g = g ρ := rfl
@[simp] theorem sq_rt (d : D) (ρ : Rho) (g : FS) : sq (.ok (.rt d) ρ) g = .ok (.rt d) ρ := rfl
@[simp] theorem sq_bk (ρ : Rho) (g : FS) : sq (.ok .bk ρ) g = .ok .bk ρ := rfl
@[simp] theorem sq_ct (ρ : Rho) (g : FS) : sq (.ok .ct ρ) g = .ok .ct ρ := rfl
@[simp] theorem sq_err (c : Str) (fs : List (Str × D)) (ρ : Rho) (g : FS) : sq (.err c fs ρ) g = .err c fs ρ := rfl
@[simp] theorem sq_no (g : FS) : sq .no g = .no := rfl
def fNx : FS := fun ρ => .ok .nx ρ
def fSeq (f g : FS) : FS := fun ρ => sq (f ρ) g
theorem xs_nil : XSs' X Γ [] fNx := PSs.imp pss_nil fun D σ H ⟨ρ, A, F, e, h⟩ => h σ H F e Stp.refl
theorem xs_cons {s : Stmt} {r : List Stmt} {f g : FS} (h1 : XS' X Γ s f) (h2 : XSs' X Γ r g) : XSs' X Γ (s :: r) (fSeq f g) := by
  refine PSs.imp (pss_cons h1 h2) fun D σ H ⟨ρ, A, F, e, h⟩ => ⟨ρ, A, F, e, ?_⟩
  unfold fSeq at h
  cases ho : f ρ with
  | no => rw [ho] at h; exact h
  | err c fs ρ1 => rw [ho] at h; exact h
  | ok r ρ1 =>
    rw [ho] at h
    cases r with
    | nx => exact fun σ1 H1 F1 e1 st1 => ⟨ρ1, A, F1, e1, GoS.shift h st1⟩
    | bk => exact h
    | ct => exact h
    | rt d => exact h
theorem xs_one {s : Stmt} {f : FS} (h1 : XS' X Γ s f) : XSs' X Γ [s] f := pss_one h1
def fBk : FS := fun ρ => .ok .bk ρ
def fCt : FS := fun ρ => .ok .ct ρ
theorem s_pass {pos : Pos} : XS' X Γ (.Pass pos) fNx := PS.imp ps_pass fun D σ H ⟨ρ, A, F, e, h⟩ => h σ H F e Stp.refl
theorem s_break {pos : Pos} : XS' X Γ (.Break pos) fBk := PS.imp ps_break fun D σ H ⟨ρ, A, F, e, h⟩ => h σ H F e Stp.refl
theorem s_continue {pos : Pos} : XS' X Γ (.Continue pos) fCt := PS.imp ps_continue fun D σ H ⟨ρ, A, F, e, h⟩ => h σ H F e Stp.refl
def fDrop (f : FE) : FS := fun ρ => (f ρ).bind fun _ ρ1 => .ok .nx ρ1
theorem s_expr {e : Expr} {f : FE} {pos : Pos} (h : XE' X Γ e f) (hs : swapsWith e none pos.line X.env = pure false := by rfl) : XS' X Γ (.Expr e pos) (fDrop f) := by
  refine PS.imp (ps_expr h hs) fun D σ H ⟨ρ, A, F, e, h⟩ => ?_
  exact ⟨ρ, A, F, e, Go.bindS h Stp.refl fun r ρ1 v H1 F1 g1 _ e1 st1 q1 h1 => h1 σ H1 F1 e1 (st1.sub fun b q => .inl q)⟩
def rtn (r : R) (ρ : Rho) : Out Fl := match r with
  | .val d => .ok (.rt d) ρ
  | .bor _ => .no
def fRet (f : FE) : FS := fun ρ => (f ρ).bind rtn
theorem s_ret {e : Expr} {f : FE} {pos : Pos} (h : XE' X Γ e f) : XS' X Γ (.Return (some e) pos) (fRet f) := by
  refine PS.imp (ps_ret h) fun D σ H ⟨ρ, A, F, e, h⟩ => ?_
  refine ⟨ρ, A, F, e, Go.bindS h Stp.refl fun r ρ1 v H1 F1 g1 _ e1 st1 q1 h1 => ?_⟩
  cases r with
  | val d => exact h1 v σ H1 F1 g1 e1 st1 q1.1 q1.2.1 q1.2.2
  | bor i => exact False.elim h1
def fRetN : FS := fun ρ => .ok (.rt .non) ρ
theorem s_retN {pos : Pos} : XS' X Γ (.Return none pos) fRetN :=
  PS.imp ps_retN fun D σ H ⟨ρ, A, F, e, h⟩ => h .non σ H F [] e (Stp.refl.sub plus_nil) (.fz .non) List.nodup_nil fun a ha => nomatch ha
/-- a slot's thing is handed on -/
def mv (r : R) (ρ : Rho) : Out R := match r with
  | .val d => .ok (.val d) ρ
  | .bor i => match ρ[i]? with
    | some (.dt d) => .ok (.val d) (ρ.set i .un)
    | some (.io d) => if d.isF then .ok (.val d) ρ else .no
    | _ => .no
def fMv (f : FE) : FE := fun ρ => (f ρ).bind mv
theorem EnvR.gone {K : PySem.W.Frag} {A : Nat → Addr} {σ : L2.St} {H : Hp} {ρ : Rho} {F : Fp} {i : Nat} (e : EnvR K A σ H ρ F) : EnvR K A σ H (ρ.set i .un) (F.put i []) := by
  refine ⟨fun j s x h3 h4 => ?_, fun j x h3 => ?_, fun j a ha => ?_, fun j => ?_, fun j k a h3 h4 => ?_, by rw [List.length_set]; exact e.len⟩
  · by_cases hj : j = i
    · subst hj
      rw [List.getElem?_set] at h3
      simp only [if_true] at h3
      split at h3
      · cases h3; cases h4
      · cases h3
    · rw [List.getElem?_set_ne (Ne.symm hj)] at h3
      rw [Fp.put_ne hj]
      exact e.rep j s x h3 h4
  · by_cases hj : j = i
    · subst hj
      rw [List.getElem?_set] at h3
      simp only [if_true] at h3
      split at h3 <;> cases h3
    · rw [List.getElem?_set_ne (Ne.symm hj)] at h3
      exact e.io j x h3
  · by_cases hj : j = i
    · subst hj; rw [Fp.put_same] at ha; cases ha
    · rw [Fp.put_ne hj] at ha
      rw [List.getElem?_set_ne (Ne.symm hj)]
      exact e.emp j a ha
  · by_cases hj : j = i
    · subst hj; rw [Fp.put_same]; exact List.nodup_nil
    · rw [Fp.put_ne hj]; exact e.nd j
  · by_cases hj : j = i
    · subst hj; rw [Fp.put_same] at h3; cases h3
    · rw [Fp.put_ne hj] at h3
      by_cases hk : k = i
      · subst hk; rw [Fp.put_same] at h4; cases h4
      · rw [Fp.put_ne hk] at h4
        exact e.dj j k a h3 h4
theorem x_mv {e : Expr} {f : FE} (h : XE' X Γ e f) : XE' X Γ e (fMv f) := by
  refine PE.imp h fun σ H Q ⟨ρ, A, F, e, h⟩ => ?_
  refine ⟨ρ, A, F, e, Go.bind h Stp.refl fun r ρ1 v H1 F1 g1 _ e1 st1 q1 h1 => ?_⟩
  cases r with
  | val d => exact h1.ok e1 st1 q1
  | bor i =>
    obtain ⟨hv, rfl⟩ := q1
    unfold mv at h1
    simp only at h1
    split at h1
    · rename_i d hd
      obtain ⟨v', hv', w⟩ := e1.rep i _ d hd rfl
      rw [hv] at hv'; cases hv'
      refine Go.ok (g := F1 i) h1 (e1.gone (i := i)) (st1.sub fun b q => ?_) ⟨w, e1.nd i, fun a ha z => ?_⟩
      · rcases q with q | q
        · exact (Fp.put_sub q).imp id fun z => nomatch z
        · exact .inl ⟨i, q⟩
      · obtain ⟨j, z⟩ := z
        by_cases hj : j = i
        · subst hj; rw [Fp.put_same] at z; cases z
        · rw [Fp.put_ne hj] at z
          exact hj (e1.dj j i a z ha)
    · rename_i d hd
      obtain ⟨v', hv', w⟩ := e1.rep i _ d hd rfl
      rw [hv] at hv'; cases hv'
      split at h1
      · rename_i hf
        exact Go.ok (g := []) h1 e1 st1 ⟨.fz (w.isF hf).1, List.nodup_nil, fun a ha => nomatch ha⟩
      · exact False.elim h1
    · exact False.elim h1
def fIfS (t : FT) (f g : FS) : FS := fun ρ => (t ρ).bind fun b ρ1 => if b then f ρ1 else g ρ1
theorem s_if {c : Expr} {a b : List Stmt} {t : FT} {f g : FS} {pos : Pos} (hc : XT' X Γ c t) (ha : XSs' X Γ a f) (hb : XSs' X Γ b g) : XS' X Γ (.If c a b pos) (fIfS t f g) := by
  refine PS.imp (ps_if hc ha hb) fun D σ H ⟨ρ, A, F, e, h⟩ => ?_
  refine ⟨ρ, A, F, e, Go.bindS h Stp.refl fun r ρ1 v H1 F1 g1 _ e1 st1 q1 h1 => ?_⟩
  obtain ⟨rfl, rfl⟩ := q1
  have st := st1.sub (S2 := fsS F1) fun b q => .inl q
  cases r with
  | true => rw [if_pos rfl] at h1 ⊢; exact ⟨ρ1, A, F1, e1, h1.shift st⟩
  | false => rw [if_neg Bool.false_ne_true] at h1 ⊢; exact ⟨ρ1, A, F1, e1, h1.shift st⟩

/-! ### targets -/
abbrev FG := D → Rho → Out Unit
def GoG (Γ : Ct) (A : Nat → Addr) (dom : List Nat) (σ : L2.St) (H : Hp) (S : Addr → Prop) (o : Out Unit) (Q : L2.St → Hp → Prop) : Prop :=
  match o with
  | .ok _ ρ' => ∀ σ' H' F', EnvR Γ.K A σ' H' ρ' F' → Stp H S H' (fsS F') → (σ'.length = σ.length ∧ ∀ j, j ∉ dom → σ'[j]? = σ[j]?) → Q σ' H'
  | .err _ _ _ => False
  | .no => False
def tGt (Γ : Ct) (G : FG) (dom : List Nat) : TG := fun v σ H Q => ∃ ρ A F d g, EnvR Γ.K A σ H ρ F ∧ Ow Γ.K H v d g ∧ g.Nodup ∧ (∀ a ∈ g, ¬ fsS F a) ∧ GoG Γ A dom σ H (plus (fsS F) g) (G d ρ) Q
abbrev XG' (X : Cx) (Γ : Ct) (e : Expr) (G : FG) (dom : List Nat) : Prop := PG X e (tGt Γ G dom)
def gSet (i : Nat) : FG := fun d ρ => match ρ[i]? with
  | some .un => .ok () (ρ.set i (.dt d))
  | some (.dt _) => .ok () (ρ.set i (.dt d))
  | _ => .no
theorem g_name {i : Nat} {x : Str} {pos : Pos} (hN : X.N.Nodup) (hi : X.N[i]? = some x) (hx : Loc X.env.scope x) (hf : X.fn x = true ∨ X.env.scope.names.lookup x = some .local := by first | exact .inl rfl | exact .inr rfl | assumption) : XG' X Γ (.Name x pos) (gSet i) [i] := by
  refine PG.imp (pg_name hN hi hx hf) fun v σ H Q ⟨ρ, A, F, d, g, e, w, nd, dj, h⟩ => ?_
  unfold gSet at h
  have key : ∀ s, ρ[i]? = some s → GoG Γ A [i] σ H (plus (fsS F) g) (.ok () (ρ.set i (.dt d))) Q → Q (σ.set i (some v)) H := fun s hs h => by
    have hi := (List.getElem?_eq_some_iff.mp hs).1
    refine h _ H (F.put i g) (e.put (s' := .dt d) (d := d) hi (List.getElem?_set_self (by rw [← e.len]; exact hi)) (fun j hj => List.getElem?_set_ne (Ne.symm hj)) rfl w nd (fun a ha j _ z => dj a ha ⟨j, z⟩) (fun x z => nomatch z) (by simp)) ?_ ?_
    · exact Stp.refl.sub fun b q => Fp.put_sub q
    · exact ⟨by simp, fun j hj => List.getElem?_set_ne fun z => hj (by simp [z])⟩
  split at h
  · exact key _ (by assumption) h
  · exact key _ (by assumption) h
  · exact False.elim h
/-- several targets -/
def gAll : List FG → List D → Rho → Out Unit
  | [], [], ρ => .ok () ρ
  | G :: Gs, d :: ds, ρ => (G d ρ).bind fun _ ρ1 => gAll Gs ds ρ1
  | _, _, _ => .no
def tGs (Γ : Ct) (Gs : List FG) (dom : List Nat) : TGs := fun vs σ H Q => ∃ ρ A F ds fs, EnvR Γ.K A σ H ρ F ∧ vs.length = ds.length ∧ fs.length = ds.length ∧ (∀ (i : Nat) v d f, vs[i]? = some v → ds[i]? = some d → fs[i]? = some f → Ow Γ.K H v d f) ∧
  (List.flatten fs).Nodup ∧ (∀ a ∈ List.flatten fs, ¬ fsS F a) ∧ GoG Γ A dom σ H (plus (fsS F) fs.flatten) (gAll Gs ds ρ) Q
abbrev XGs' (X : Cx) (Γ : Ct) (es : List Expr) (Gs : List FG) (dom : List Nat) : Prop := PGs X es (tGs Γ Gs dom)
theorem PGs.imp {X : Cx} {e : List Expr} {t t' : TGs} (h : PGs X e t) (k : ∀ v σ H Q, t' v σ H Q → t v σ H Q) : PGs X e t' := ⟨fun pins s σ H v u Q I r q => h.run pins s σ H v u Q I r (k _ _ _ _ q)⟩
theorem gs_nil : XGs' X Γ [] [] [] := by
  refine PGs.imp pgs_nil fun vs σ H Q ⟨ρ, A, F, ds, fs, e, l1, l2, c, nd, dj, h⟩ => ?_
  cases ds with
  | nil =>
    have e1 : vs = [] := List.eq_nil_of_length_eq_zero l1
    have e2 : fs = [] := List.eq_nil_of_length_eq_zero l2
    subst e1; subst e2
    exact ⟨rfl, h σ H F e (Stp.refl.sub fun b q => .inl q) ⟨rfl, fun _ _ => rfl⟩⟩
  | cons d ds => exact False.elim h
theorem gs_cons {x : Expr} {xs : List Expr} {G : FG} {Gs : List FG} {d1 d2 : List Nat} (h1 : XG' X Γ x G d1) (h2 : XGs' X Γ xs Gs d2) (hs : (assignEach (x :: xs) X.env).map (·.2) = assign x X.env :: (assignEach xs X.env).map (·.2) := by rfl) : XGs' X Γ (x :: xs) (G :: Gs) (d1 ++ d2) := by
  refine PGs.imp (pgs_cons h1 h2 hs) fun vs σ H Q ⟨ρ, A, F, ds, fs, e, l1, l2, c, nd, dj, h⟩ => ?_
  cases ds with
  | nil => exact False.elim h
  | cons d ds =>
    cases vs with
    | nil => cases l1
    | cons v vs =>
      cases fs with
      | nil => cases l2
      | cons g fs =>
        rw [List.flatten_cons] at nd dj h
        obtain ⟨nd1, nd2, nd3⟩ := List.nodup_append.mp nd
        have w : Ow Γ.K H v d g := c 0 v d g rfl rfl rfl
        refine ⟨v, vs, rfl, ρ, A, F, d, g, e, w, nd1, fun a ha => dj a (List.mem_append_left _ ha), ?_⟩
        unfold gAll at h
        cases ho : G d ρ with
        | no => rw [ho] at h; exact h
        | err c fs ρ1 => rw [ho] at h; exact h
        | ok u ρ1 =>
          rw [ho] at h
          intro σ1 H1 F1 e1 st1 dm1
          have c' : ∀ (i : Nat) v d f, vs[i]? = some v → ds[i]? = some d → fs[i]? = some f → Ow Γ.K H1 v d f := fun i v d f i1 i2 i3 => by
            refine (c (i + 1) v d f (by simpa using i1) (by simpa using i2) (by simpa using i3)).stay fun b o eo z => st1.1 b o eo fun q => ?_
            rcases z with z | z
            · rcases q with q | q
              · exact e.notFix eo z q
              · obtain ⟨o', eo', m⟩ := w.mut b q
                rw [eo] at eo'; cases eo'
                exact z.notMut m
            · have zf := mem_flat i3 z
              rcases q with q | q
              · exact dj b (List.mem_append_right _ zf) q
              · exact nd3 b q b zf rfl
          refine ⟨ρ1, A, F1, ds, fs, e1, by simpa using l1, by simpa using l2, c', nd2, fun a ha z => ?_, ?_⟩
          · obtain ⟨f, hf, hb⟩ := List.mem_flatten.mp ha
            obtain ⟨i, hi, ei⟩ := List.getElem_of_mem hf
            simp only [List.length_cons] at l1 l2
            obtain ⟨o, eo, m⟩ := (c (i + 1) (vs[i]'(by omega)) (ds[i]'(by omega)) f (by simp) (by simp) (by simp [hi, ei])).mut a hb
            rcases st1.2 a z with q | q
            · rw [eo] at q; cases q
            · rcases q with q | q
              · exact dj a (List.mem_append_right _ ha) q
              · exact nd3 a q a ha rfl
          · have h : GoG Γ A (d1 ++ d2) σ H (plus (fsS F) (g ++ fs.flatten)) (gAll Gs ds ρ1) Q := h
            have stX : Stp H (plus (fsS F) (g ++ fs.flatten)) H1 (plus (fsS F1) fs.flatten) := by
              refine st1.frame.weak fun b q => ?_
              rcases q with (q | q) | q
              · exact .inl q
              · exact .inr (List.mem_append_left _ q)
              · exact .inr (List.mem_append_right _ q)
            cases hg : gAll Gs ds ρ1 with
            | ok u ρ2 => rw [hg] at h; exact fun σ2 H2 F2 e2 st2 dm2 => h σ2 H2 F2 e2 (stX.trans st2) ⟨dm2.1.trans dm1.1, fun j hj => (dm2.2 j fun z => hj (List.mem_append_right _ z)).trans (dm1.2 j fun z => hj (List.mem_append_left _ z))⟩
            | err c fs ρ2 => rw [hg] at h; exact h
            | no => rw [hg] at h; exact h
def gTup (Gs : List FG) : FG := fun d ρ => match d with
  | .nd .tup xs => if xs.length = Gs.length then gAll Gs xs ρ else .no
  | _ => .no
theorem g_tup {es : List Expr} {k : Nat} {Gs : List FG} {n : Nat} {dom : List Nat} {pos : Pos} (hc : X.calm = true) (hK : Γ.K = X.K) (h : XGs' X Γ es Gs dom) (hn : (assignEach es X.env).length = n := by rfl) (hst : (assignEach es X.env).findIdx? (·.1) = none := by rfl) (hl : Gs.length = n := by rfl) :
    XG' X Γ (.Tuple es k pos) (gTup Gs) dom := by
  refine PG.imp (pg_tup hc h hn hst) fun v σ H Q ⟨ρ, A, F, d, g, e, w, nd, dj, h⟩ => ?_
  unfold gTup at h
  split at h
  · rename_i xs
    split at h
    · rename_i hxs
      cases w with
      | fz w =>
        cases w with
        | @nd a _ vs _ h1 h2 h3 =>
          refine ⟨a, vs, rfl, by rw [← hK]; exact h1, by rw [h2, hxs, hl], ρ, A, F, xs, List.replicate xs.length [], e, h2, by simp, fun i v d f e1 e2 e3 => ?_, ?_, ?_, ?_⟩
          · have : f = [] := List.eq_of_mem_replicate (List.mem_of_getElem? e3)
            subst this
            exact .fz (h3 i v d e1 e2)
          · rw [List.flatten_replicate_nil]; exact List.nodup_nil
          · rw [List.flatten_replicate_nil]; exact fun a ha => nomatch ha
          · rw [List.flatten_replicate_nil]; exact h
      | @nd a _ vs _ fs h1 h2 h3 h4 => exact False.elim h1
      | @tup a vs _ fs h1 h2 h3 h4 =>
        exact ⟨a, vs, rfl, by rw [← hK]; exact h1, by rw [h2, hxs, hl], ρ, A, F, xs, fs, e, h2, h3, h4, nd, dj, h⟩
    · exact False.elim h
  · exact False.elim h
/-- target = value -/
def asg (G : FG) (r : R) (ρ : Rho) : Out Fl := match r with
  | .val d => (match G d ρ with
    | .ok _ ρ1 => .ok .nx ρ1
    | _ => .no)
  | .bor _ => .no
def fAsg (f : FE) (G : FG) : FS := fun ρ => (f ρ).bind (asg G)
theorem GoG.of {dom : List Nat} {σ : L2.St} {A : Nat → Addr} {H H1 : Hp} {S S1 : Addr → Prop} {G : FG} {d : D} {ρ1 : Rho} {E : Ends} (h : GoS Γ A H S (asg G (.val d) ρ1) E) (st : Stp H S H1 S1) : GoG Γ A dom σ H1 S1 (G d ρ1) E.nx := by
  unfold asg at h
  simp only at h
  cases ho : G d ρ1 with
  | ok u ρ2 => rw [ho] at h; exact fun σ2 H2 F2 e2 st2 _ => h σ2 H2 F2 e2 (st.trans st2)
  | err c fs ρ2 => rw [ho] at h; exact h
  | no => rw [ho] at h; exact h
theorem asg_go {dom : List Nat} {f : FE} {G : FG} (D : Ends) (σ : L2.St) (H : Hp) (h : tS Γ (fAsg f G) D σ H) : tAsg (tE Γ f) (tGt Γ G dom) D σ H := by
  obtain ⟨ρ, A, F, e, h⟩ := h
  refine ⟨ρ, A, F, e, Go.bindS h Stp.refl fun r ρ1 v H1 F1 g1 _ e1 st1 q1 h1 => ?_⟩
  cases r with
  | bor i => exact False.elim h1
  | val d => exact ⟨ρ1, A, F1, d, g1, e1, q1.1, q1.2.1, q1.2.2, GoG.of h1 st1⟩
theorem s_asg {tg e : Expr} {f : FE} {G : FG} {dom : List Nat} {pos : Pos} (he : XE' X Γ e f) (hg : XG' X Γ tg G dom) (hs : swapsWithSole [tg] e pos.line X.env = pure false := by rfl) (hw : swappedStores [tg] e X.env = pure none := by rfl)
    (h1 : (assignEach [tg] X.env).map (·.2) = [assign tg X.env] := by rfl) : XS' X Γ (.Assign [tg] e pos) (fAsg f G) := PS.imp (ps_asg he hg hs hw h1) asg_go
theorem gName_of {i : Nat} {v : V} {σ : L2.St} {H : Hp} {Q : L2.St → Hp → Prop} (h : tGt Γ (gSet i) [i] v σ H Q) : gName i v σ H Q := by
  obtain ⟨ρ, A, F, d, g, e, w, nd, dj, h⟩ := h
  unfold gSet at h
  have key : ∀ s, ρ[i]? = some s → GoG Γ A [i] σ H (plus (fsS F) g) (.ok () (ρ.set i (.dt d))) Q → Q (σ.set i (some v)) H := fun s hs h => by
    have hi := (List.getElem?_eq_some_iff.mp hs).1
    refine h _ H (F.put i g) (e.put (s' := .dt d) (d := d) hi (List.getElem?_set_self (by rw [← e.len]; exact hi)) (fun j hj => List.getElem?_set_ne (Ne.symm hj)) rfl w nd (fun a ha j _ z => dj a ha ⟨j, z⟩) (fun x z => nomatch z) (by simp)) ?_ ?_
    · exact Stp.refl.sub fun b q => Fp.put_sub q
    · exact ⟨by simp, fun j hj => List.getElem?_set_ne fun z => hj (by simp [z])⟩
  split at h
  · exact key _ (by assumption) h
  · exact key _ (by assumption) h
  · exact False.elim h
theorem s_set {i : Nat} {x : Str} {e : Expr} {f : FE} {pos' pos : Pos} (hN : X.N.Nodup) (hi : X.N[i]? = some x) (hx : Loc X.env.scope x) (he : XE' X Γ e f) (hs : swapsWith e (some (.Name x pos')) pos.line X.env = pure false := by rfl) (hf : X.fn x = true ∨ X.env.scope.names.lookup x = some .local := by first | exact .inl rfl | exact .inr rfl | assumption) :
    XS' X Γ (.Assign [.Name x pos'] e pos) (fAsg f (gSet i)) := by
  refine PS.imp (ps_set hN hi hx he hs hf) fun D σ H h => ?_
  obtain ⟨ρ, A, F, e, h⟩ := h
  refine ⟨ρ, A, F, e, Go.bindS h Stp.refl fun r ρ1 v H1 F1 g1 _ e1 st1 q1 h1 => ?_⟩
  cases r with
  | bor i => exact False.elim h1
  | val d => exact gName_of (Γ := Γ) ⟨ρ1, A, F1, d, g1, e1, q1.1, q1.2.1, q1.2.2, GoG.of h1 st1⟩
/-- a, b = x, y of plain locals: stored from the right -/
def par (i j : Nat) (rs : List R) (ρ : Rho) : Out Fl := match valsOf rs with
  | some [d, e] => (match gSet j e ρ with
    | .ok _ ρ1 => (match gSet i d ρ1 with
      | .ok _ ρ2 => .ok .nx ρ2
      | _ => .no)
    | _ => .no)
  | _ => .no
def fPar (i j : Nat) (fs : FA) : FS := fun ρ => (fs ρ).bind (par i j)
theorem gSet_ok {i : Nat} {d : D} {ρ ρ1 : Rho} {u : Unit} (h : gSet i d ρ = .ok u ρ1) : i < ρ.length ∧ (∀ x, ρ[i]? ≠ some (.io x)) ∧ ρ1 = ρ.set i (.dt d) := by
  unfold gSet at h
  split at h
  · rename_i hs; cases h; exact ⟨(List.getElem?_eq_some_iff.mp hs).1, fun x z => by (rw [hs] at z; cases z), rfl⟩
  · rename_i hs; cases h; exact ⟨(List.getElem?_eq_some_iff.mp hs).1, fun x z => by (rw [hs] at z; cases z), rfl⟩
  · cases h
theorem s_par {i j : Nat} {x y : Str} {a b : Expr} {fs : FA} {px py pt pos : Pos} {kt k2 pt2} (hc : X.calm = true) (hN : X.N.Nodup) (hi : X.N[i]? = some x) (hj : X.N[j]? = some y) (hij : i ≠ j)
    (hx : X.env.scope.names.lookup x = some .local) (hy : X.env.scope.names.lookup y = some .local) (ha : XA' X Γ [a, b] fs)
    (hw : swappedStores [.Tuple [.Name x px, .Name y py] kt pt] (.Tuple [a, b] k2 pt2) X.env = pure (some [x, y]))
    (hs : swapsWithSole [.Tuple [.Name x px, .Name y py] kt pt] (.Tuple [a, b] k2 pt2) pos.line X.env = pure false := by rfl) :
    XS' X Γ (.Assign [.Tuple [.Name x px, .Name y py] kt pt] (.Tuple [a, b] k2 pt2) pos) (fPar i j fs) := by
  refine PS.imp (ps_par hc hN hi hj hij hx hy ha hw hs) fun D σ H ⟨ρ, A, F, e, h⟩ => ?_
  refine ⟨ρ, A, F, e, Go.bindS h Stp.refl fun rs ρ1 vs H1 F1 g1 _ e1 st1 q1 h1 => ?_⟩
  unfold par at h1
  split at h1
  · rename_i d d' hds
    split at h1
    · rename_i u ρ2 hg1
      split at h1
      · rename_i u' ρ3 hg2
        obtain ⟨fs, rfl, l1, l2, nd, dj, c⟩ := q1.vals hds
        match vs, fs, l1, l2 with
        | [v, w], [g, g'], _, _ =>
          refine ⟨v, w, rfl, ?_⟩
          obtain ⟨lj, _, rfl⟩ := gSet_ok hg1
          obtain ⟨li, _, rfl⟩ := gSet_ok hg2
          simp only [List.flatten_cons, List.flatten_nil, List.append_nil] at nd dj st1
          obtain ⟨n1, n2, n3⟩ := List.nodup_append.mp nd
          have w1 : Ow Γ.K H1 v d g := c 0 _ _ _ rfl rfl rfl
          have w2 : Ow Γ.K H1 w d' g' := c 1 _ _ _ rfl rfl rfl
          have e2 := e1.put (σ' := σ.set j (some w)) (s' := .dt d') (d := d') lj (List.getElem?_set_self (by rw [← e1.len]; exact lj)) (fun k hk => List.getElem?_set_ne (Ne.symm hk)) rfl w2 n2 (fun a ha k _ z => dj a (List.mem_append_right _ ha) ⟨k, z⟩) (fun x z => nomatch z) (by simp)
          have e3 := e2.put (σ' := (σ.set j (some w)).set i (some v)) (s' := .dt d) (d := d) li (List.getElem?_set_self (by rw [← e2.len]; exact li)) (fun k hk => List.getElem?_set_ne (Ne.symm hk)) rfl w1 n1 (fun a ha k _ z => by
            rcases Fp.put_sub ⟨k, z⟩ with z | z
            · exact dj a (List.mem_append_left _ ha) z
            · exact n3 a ha a z rfl) (fun x z => nomatch z) (by simp)
          rw [List.set_comm _ _ (Ne.symm hij)] at e3
          refine h1 _ H1 _ e3 (st1.sub fun b q => ?_)
          rcases Fp.put_sub q with q | q
          · rcases Fp.put_sub q with q | q
            · exact .inl q
            · exact .inr (List.mem_append_right _ q)
          · exact .inr (List.mem_append_left _ q)
      · exact False.elim h1
    · exact False.elim h1
  · exact False.elim h1
/-- name op= e -/
def fAug (op : D → D → Option D) (i : Nat) (f : FE) : FS := fun ρ => match slot ρ i with
  | some x => (f ρ).bind fun r ρ1 => (match rd ρ1 r with
    | some y => (match op x y with
      | some z => asg (gSet i) (.val z) ρ1
      | none => .no)
    | none => .no)
  | none => .no
theorem s_aug {i : Nat} {x : Str} {e : Expr} {f : FE} {op : Operator} {ti : TIp} {sem : D → D → Option D} {pos' pos : Pos} (hN : X.N.Nodup) (hi : X.N[i]? = some x) (hx : Loc X.env.scope x) (he : XE' X Γ e f) (ho : PIp X op ti)
    (hr : ∀ v w H Q, (∃ a b z g2, Fz Γ.K H v a ∧ Ow Γ.K H w b g2 ∧ sem a b = some z ∧ PR Γ.K H z Q) → ti v w H Q) (hF : ∀ a b z, sem a b = some z → a.isF = true) (hf : X.fn x = true ∨ X.env.scope.names.lookup x = some .local := by first | exact .inl rfl | exact .inr rfl | assumption) :
    XS' X Γ (.AugAssign (.Name x pos') op e pos) (fAug sem i f) := by
  refine PS.imp (ps_aug hN hi hx he ho hf) fun D σ H ⟨ρ, A, F, e, h⟩ => ?_
  unfold fAug at h
  split at h
  · rename_i a ha
    obtain ⟨s, hs, hd, hl⟩ := slot_at ha
    obtain ⟨v, hv, w⟩ := e.rep i s a hs hd
    refine ⟨v, hv, ρ, A, F, e, Go.bindS h Stp.refl fun r ρ1 u H1 F1 g1 _ e1 st1 q1 h1 => ?_⟩
    split at h1
    · rename_i b hb
      split at h1
      · rename_i z hz
        have wz := (w.isF (hF a b z hz)).1.stay (st1.fix e)
        obtain ⟨gb, wb⟩ := q1.read e1 hb
        refine hr v u H1 _ ⟨a, b, z, gb, wz, wb, hz, fun v' H' g k w nd nw => ?_⟩
        refine gName_of (Γ := Γ) ⟨ρ1, A, F1, z, g, e1.stay fun b o q _ => k b o q, w, nd, fun a ha q => ?_, GoG.of h1 (((st1.sub fun b q => .inl q).new nw).trans (Stp.same k))⟩
        obtain ⟨o, eo, _⟩ := e1.mut q
        rw [nw a ha] at eo; cases eo
      · exact False.elim h1
    · exact False.elim h1
  · exact False.elim h

/-! ### for -/
abbrev FI := Rho → Out (List D)
def ItOk (K : PySem.W.Frag) (J : It) (H1 : Hp) (items : List D) : Prop :=
  ∀ (i : Nat) (H : Hp), (∀ b o, H1 b = some o → Fix o → H b = some o) →
    (∀ d, items[i]? = some d → J.go i H ∧ ∀ x H', J.yld i H x H' → (∀ b o, H b = some o → H' b = some o) ∧ Fz K H' x d) ∧ (items.length ≤ i → J.stop i H)
def ResI (K : PySem.W.Frag) : L2.St → Hp → Fp → List D → It → List Addr → Prop := fun _ H _ items J g => ItOk K J H items ∧ g = []
def tI (Γ : Ct) (f : FI) : TI := fun σ H R => ∃ ρ A F, EnvR Γ.K A σ H ρ F ∧ Go Γ A (ResI Γ.K) σ H (fsS F) (f ρ) R
abbrev XI' (X : Cx) (Γ : Ct) (tg iter : Expr) (f : FI) : Prop := PI X tg iter (tI Γ f)
def forL (G : FG) (B : FS) : List D → Rho → Out Fl
  | [], ρ => .ok .nx ρ
  | d :: ds, ρ => match G d ρ with
    | .ok _ ρ1 => (match B ρ1 with
      | .ok .nx ρ2 => forL G B ds ρ2
      | .ok .ct ρ2 => forL G B ds ρ2
      | .ok .bk ρ2 => .ok .nx ρ2
      | .ok (.rt d) ρ2 => .ok (.rt d) ρ2
      | .err c fs ρ2 => .err c fs ρ2
      | .no => .no)
    | _ => .no
def fFor (fi : FI) (G : FG) (B : FS) : FS := fun ρ => (fi ρ).bind (forL G B)
theorem s_for {tg iter : Expr} {body : List Stmt} {fi : FI} {G : FG} {B : FS} {dom : List Nat} {pos : Pos} (hp : PassesOwn (model X.prog X.w) X.A X.env X.xe) (hc : X.calm = true) (hi : XI' X Γ tg iter fi) (hg : XG' X Γ tg G dom) (hb : XSs' X Γ body B)
    (hs : ∀ x, foldedSetIterable iter X.env x = pure x := by intro _; rfl) : XS' X Γ (.For tg iter body [] pos) (fFor fi G B) := by
  refine PS.imp (ps_for hp hc hi hg hb hs) fun D σ H ⟨ρ, A, F, e, h⟩ => ?_
  refine ⟨ρ, A, F, e, Go.bindS h Stp.refl fun items ρ1 J H1 F1 g1 _ e1 st1 q1 h1 => ?_⟩
  obtain ⟨ok, rfl⟩ := q1
  have st1 : Stp H (fsS F) H1 (fsS F1) := st1.sub fun b q => .inl q
  refine ⟨fun i m σ' H' => i ≤ items.length ∧ m = items.length - i ∧ (∀ b o, H1 b = some o → Fix o → H' b = some o) ∧ ∃ ρ' F', EnvR Γ.K A σ' H' ρ' F' ∧ GoS Γ A H' (fsS F') (forL G B (items.drop i) ρ') D,
    ⟨items.length, Nat.zero_le _, rfl, fun _ _ q _ => q, ρ1, F1, e1, h1.shift st1⟩, ?_⟩
  rintro i m σ2 H2 ⟨hi, rfl, kf, ρ2, F2, e2, h2⟩
  obtain ⟨ok1, ok2⟩ := ok i H2 kf
  by_cases hlt : i < items.length
  · refine .inr ⟨(ok1 items[i] (List.getElem?_eq_getElem hlt)).1, fun σ' H' => i + 1 ≤ items.length ∧ (∀ b o, H1 b = some o → Fix o → H' b = some o) ∧ ∃ ρ' F', EnvR Γ.K A σ' H' ρ' F' ∧ GoS Γ A H' (fsS F') (forL G B (items.drop (i + 1)) ρ') D,
      fun σ' H' ⟨a, b, c⟩ => ⟨_, by omega, a, rfl, b, c⟩, fun x H3 y => ?_⟩
    obtain ⟨k3, w3⟩ := (ok1 items[i] (List.getElem?_eq_getElem hlt)).2 x H3 y
    have e3 := e2.stay fun b o q _ => k3 b o q
    rw [List.drop_eq_getElem_cons hlt] at h2
    unfold forL at h2
    refine ⟨ρ2, A, F2, items[i], [], e3, .fz w3, List.nodup_nil, (fun a ha => nomatch ha), ?_⟩
    have s3 : Stp H2 (fsS F2) H3 (plus (fsS F2) []) := (Stp.same k3).sub plus_nil
    cases hG : G items[i] ρ2 with
    | no => rw [hG] at h2; exact h2
    | err c fs ρ4 => rw [hG] at h2; exact h2
    | ok u ρ4 =>
      rw [hG] at h2
      dsimp only at h2
      intro σ4 H4 F4 e4 st4 _
      refine ⟨ρ4, A, F4, e4, ?_⟩
      have sA := s3.trans st4
      have again : ∀ {ρ5 : Rho}, GoS Γ A H2 (fsS F2) (forL G B (items.drop (i + 1)) ρ5) D → ∀ σ' H' F', EnvR Γ.K A σ' H' ρ5 F' → Stp H4 (fsS F4) H' (fsS F') → i + 1 ≤ items.length ∧ (∀ b o, H1 b = some o → Fix o → H' b = some o) ∧ ∃ ρ' F', EnvR Γ.K A σ' H' ρ' F' ∧ GoS Γ A H' (fsS F') (forL G B (items.drop (i + 1)) ρ') D :=
        fun {ρ5} h5 σ5 H5 F5 e5 st5 => ⟨hlt, fun b o q x => (sA.trans st5).fix e2 b o (kf b o q x) x, ρ5, F5, e5, h5.shift (sA.trans st5)⟩
      cases hB : B ρ4 with
      | no => rw [hB] at h2; exact h2
      | err c fs ρ5 => rw [hB] at h2; exact fun C od σ' H' F' hm e s x => h2 C od σ' H' F' hm e (sA.trans s) x
      | ok fl ρ5 =>
        rw [hB] at h2
        cases fl with
        | nx => exact again h2
        | ct => exact again h2
        | bk => exact fun σ' H' F' e s => h2 σ' H' F' e (sA.trans s)
        | rt d => exact fun v σ' H' F' g e s => h2 v σ' H' F' g e (sA.trans s)
  · have e : i = items.length := by omega
    subst e
    rw [List.drop_length] at h2
    exact .inl ⟨ok2 (Nat.le_refl _), h2 σ2 H2 F2 e2 Stp.refl⟩

/-! ### while -/
def whileN (t : FT) (B : FS) : Nat → Rho → Out Fl
  | 0, _ => .no
  | n + 1, ρ => match t ρ with
    | .ok true ρ1 => (match B ρ1 with
      | .ok .nx ρ2 => whileN t B n ρ2
      | .ok .ct ρ2 => whileN t B n ρ2
      | .ok .bk ρ2 => .ok .nx ρ2
      | .ok (.rt d) ρ2 => .ok (.rt d) ρ2
      | .err c fs ρ2 => .err c fs ρ2
      | .no => .no)
    | .ok false ρ1 => .ok .nx ρ1
    | .err c fs ρ2 => .err c fs ρ2
    | .no => .no
open Classical in
noncomputable def fWhile (t : FT) (B : FS) : FS := fun ρ => if h : ∃ n, whileN t B n ρ ≠ .no then whileN t B h.choose ρ else .no
theorem whileN_succ {t : FT} {B : FS} : ∀ (n : Nat) (ρ : Rho), whileN t B n ρ ≠ .no → whileN t B (n + 1) ρ = whileN t B n ρ
  | 0, ρ, h => absurd rfl h
  | n + 1, ρ, h => by
    rw [whileN]
    conv => rhs; rw [whileN]
    rw [whileN] at h
    cases ht : t ρ with
    | no => rfl
    | err c fs ρ1 => rfl
    | ok b ρ1 =>
      cases b with
      | false => rfl
      | true =>
        rw [ht] at h
        simp only at h ⊢
        cases hB : B ρ1 with
        | no => rfl
        | err c fs ρ2 => rfl
        | ok fl ρ2 =>
          rw [hB] at h
          cases fl with
          | nx => exact whileN_succ n ρ2 h
          | ct => exact whileN_succ n ρ2 h
          | bk => rfl
          | rt d => rfl
theorem whileN_mono {t : FT} {B : FS} {n : Nat} {ρ : Rho} (h : whileN t B n ρ ≠ .no) : ∀ k, whileN t B (n + k) ρ = whileN t B n ρ
  | 0 => rfl
  | k + 1 => by
    have ih := whileN_mono h k
    rw [← Nat.add_assoc, whileN_succ _ _ (by rw [ih]; exact h), ih]
theorem fWhile_eq {t : FT} {B : FS} {n : Nat} {ρ : Rho} {o : Out Fl} (h : whileN t B n ρ = o) (ho : o ≠ .no) : fWhile t B ρ = o := by
  unfold fWhile
  have ex : ∃ n, whileN t B n ρ ≠ .no := ⟨n, by rw [h]; exact ho⟩
  rw [dif_pos ex]
  have h1 := ex.choose_spec
  have m1 := whileN_mono h1 n
  have m2 := whileN_mono (n := n) (ρ := ρ) (t := t) (B := B) (by rw [h]; exact ho) ex.choose
  rw [Nat.add_comm] at m1
  rw [← m1, m2, h]
theorem s_while {c : Expr} {body : List Stmt} {t : FT} {B : FS} {pos : Pos} (hp : PassesOwn (model X.prog X.w) X.A X.env X.xe) (hc : XT' X Γ c t) (hb : XSs' X Γ body B) : XS' X Γ (.While c body [] pos) (fWhile t B) := by
  refine PS.imp (ps_while hp hc hb) fun D σ H ⟨ρ, A, F, e, h⟩ => ?_
  unfold fWhile at h
  split at h
  · rename_i ex
    refine ⟨fun m σ' H' => ∃ ρ' F', EnvR Γ.K A σ' H' ρ' F' ∧ GoS Γ A H' (fsS F') (whileN t B m ρ') D, ⟨ex.choose, ρ, F, e, h⟩, ?_⟩
    rintro m σ2 H2 ⟨ρ2, F2, e2, h2⟩
    cases m with
    | zero => exact False.elim h2
    | succ m =>
      rw [whileN] at h2
      refine ⟨ρ2, A, F2, e2, ?_⟩
      cases ht : t ρ2 with
      | no => rw [ht] at h2; exact h2
      | err c fs ρ3 => rw [ht] at h2; exact fun C od H' F' hm e s x => h2 C od σ2 H' F' hm e s x
      | ok b ρ3 =>
        rw [ht] at h2
        intro b' H3 F3 g3 e3 st3 q3
        obtain ⟨rfl, rfl⟩ := q3
        have st3 : Stp H2 (fsS F2) H3 (fsS F3) := st3.sub fun b q => .inl q
        cases b with
        | false =>
          rw [if_neg Bool.false_ne_true]
          exact h2 σ2 H3 F3 e3 st3
        | true =>
          rw [if_pos rfl]
          refine ⟨fun σ' H' => ∃ ρ' F', EnvR Γ.K A σ' H' ρ' F' ∧ GoS Γ A H' (fsS F') (whileN t B m ρ') D, fun σ' H' q => ⟨m, Nat.lt_succ_self m, q⟩, ρ3, A, F3, e3, ?_⟩
          simp only at h2
          cases hB : B ρ3 with
          | no => rw [hB] at h2; exact h2
          | err c fs ρ5 => rw [hB] at h2; exact fun C od σ' H' F' hm e s x => h2 C od σ' H' F' hm e (st3.trans s) x
          | ok fl ρ5 =>
            rw [hB] at h2
            cases fl with
            | nx => exact fun σ5 H5 F5 e5 st5 => ⟨ρ5, F5, e5, GoS.shift h2 (st3.trans st5)⟩
            | ct => exact fun σ5 H5 F5 e5 st5 => ⟨ρ5, F5, e5, GoS.shift h2 (st3.trans st5)⟩
            | bk => exact fun σ' H' F' e s => h2 σ' H' F' e (st3.trans s)
            | rt d => exact fun v σ' H' F' g e s => h2 v σ' H' F' g e (st3.trans s)
  · exact False.elim h
end
end EE

/-! layer E, part F: defs and their calls -/
namespace EE
open PySem PySem.Spec
open PyProof.Rows hiding St
open L2

inductive CO where
  | ok (res : D) (os : List D) | err (c : Str) (fs : List (Str × D)) (os : List D) | no
def rho0 (ms : List Bool) (ds : List D) (n : Nat) : Rho := List.zipWith (fun m d => if m then Sl.io d else Sl.dt d) ms ds ++ List.replicate (n - ds.length) .un
/-- what the parameters that are lent hold in the end -/
def lent : List Bool → Rho → Option (List D)
  | [], _ => some []
  | true :: ms, .io d :: ρ => (match lent ms ρ with | some ds => some (d :: ds) | none => none)
  | false :: ms, _ :: ρ => (match lent ms ρ with | some ds => some (.non :: ds) | none => none)
  | _, _ => none
def runF (ms : List Bool) (n : Nat) (B : FS) (ds : List D) : CO := match B (rho0 ms ds n) with
  | .ok .nx ρ => (match lent ms ρ with | some os => .ok .non os | none => .no)
  | .ok (.rt d) ρ => (match lent ms ρ with | some os => .ok d os | none => .no)
  | .err c fs ρ => (match lent ms ρ with | some os => .err c fs os | none => .no)
  | _ => .no
theorem lent_len : ∀ {ms : List Bool} {ρ : Rho} {os : List D}, lent ms ρ = some os → os.length = ms.length
  | [], ρ, os, h => by cases h; rfl
  | true :: ms, .io d :: ρ, os, h => by
    unfold lent at h
    cases e : lent ms ρ with
    | none => rw [e] at h; cases h
    | some ds => rw [e] at h; cases h; simp [lent_len e]
  | false :: ms, _ :: ρ, os, h => by
    unfold lent at h
    cases e : lent ms ρ with
    | none => rw [e] at h; cases h
    | some ds => rw [e] at h; cases h; simp [lent_len e]
  | true :: ms, [], os, h => nomatch h
  | false :: ms, [], os, h => nomatch h
  | true :: ms, .un :: ρ, os, h => nomatch h
  | true :: ms, .dt _ :: ρ, os, h => nomatch h
theorem lent_at : ∀ {ms : List Bool} {ρ : Rho} {os : List D}, lent ms ρ = some os → ∀ {i : Nat}, ms[i]? = some true → ∃ d, ρ[i]? = some (.io d) ∧ os[i]? = some d
  | [], ρ, os, h, i, hi => by simp at hi
  | true :: ms, .io d :: ρ, os, h, i, hi => by
    unfold lent at h
    cases e : lent ms ρ with
    | none => rw [e] at h; cases h
    | some ds =>
      rw [e] at h; cases h
      cases i with
      | zero => exact ⟨d, rfl, rfl⟩
      | succ i => obtain ⟨d', q⟩ := lent_at e (i := i) (by simpa using hi); exact ⟨d', by simpa using q⟩
  | false :: ms, _ :: ρ, os, h, i, hi => by
    unfold lent at h
    cases e : lent ms ρ with
    | none => rw [e] at h; cases h
    | some ds =>
      rw [e] at h; cases h
      cases i with
      | zero => simp at hi
      | succ i => obtain ⟨d', q⟩ := lent_at e (i := i) (by simpa using hi); exact ⟨d', by simpa using q⟩
  | true :: ms, [], os, h, _, _ => nomatch h
  | false :: ms, [], os, h, _, _ => nomatch h
  | true :: ms, .un :: ρ, os, h, _, _ => nomatch h
  | true :: ms, .dt _ :: ρ, os, h, _, _ => nomatch h

/-- what is known of the lent things behind a call -/
structure Back (K : PySem.W.Frag) (ms : List Bool) (vs : List V) (os : List D) (H' : Hp) (G' : Fp) : Prop where
  rep : ∀ (i : Nat) a d, ms[i]? = some true → vs[i]? = some (.ref a) → os[i]? = some d → Ow K H' (.ref a) d (G' i)
  nd : ∀ i, (G' i).Nodup
  dj : ∀ i j a, a ∈ G' i → a ∈ G' j → i = j
  emp : ∀ i, ms[i]? ≠ some true → G' i = []
structure Ahead (K : PySem.W.Frag) (ms : List Bool) (vs : List V) (ds : List D) (H : Hp) (gs : Fp) : Prop where
  l1 : vs.length = ms.length
  l2 : ds.length = ms.length
  rep : ∀ (i : Nat) v d, vs[i]? = some v → ds[i]? = some d → Ow K H v d (gs i)
  ref : ∀ (i : Nat), ms[i]? = some true → ∃ a, vs[i]? = some (.ref a)
  nd : ∀ i, (gs i).Nodup
  dj : ∀ i j a, a ∈ gs i → a ∈ gs j → i = j
  emp : ∀ i, ms[i]? ≠ some true → gs i = []
def spF (K : PySem.W.Frag) (mg : Str → Option Value) (ms : List Bool) (F : List D → CO) : Sp := fun vs H Q E => ∃ ds gs, Ahead K ms vs ds H gs ∧
  match F ds with
  | .ok res os => ∀ v H' g G', os.length = ms.length → Back K ms vs os H' G' → Ow K H' v res g → g.Nodup → (∀ a ∈ g, ¬ fsS G' a) → Stp H (fsS gs) H' (plus (fsS G') g) → Q v H'
  | .err c fs os => ∀ C od H' G', os.length = ms.length → mg c = some (.ref C) → Back K ms vs os H' G' → XR K H' od fs → Stp H (fsS gs) H' (fsS G') → E (.ref C) od H'
  | .no => False
/-- the judgement's facts within a def's body -/
def CtE (K : PySem.W.Frag) (mg : Str → Option Value) (E : XK) : Ct := ⟨K, mg, fun cls d _ H => E cls d H⟩

section
variable {P : Program} {w : World} {K : PySem.W.Frag} {mg : Str → Option Value} {base : Heap}
theorem start_at {N : List Str} {vs : List V} {i : Nat} (h : i < vs.length) : (L2.start N vs)[i]? = some (some vs[i]) := by
  unfold L2.start
  rw [List.getElem?_append_left (by simpa using h), List.getElem?_map, List.getElem?_eq_getElem h]
  rfl
theorem rho0_at {ms : List Bool} {ds : List D} {n i : Nat} {b : Bool} {d : D} (h : ms[i]? = some b) (h2 : ds[i]? = some d) : (rho0 ms ds n)[i]? = some (if b then .io d else .dt d) := by
  unfold rho0
  have l1 := (List.getElem?_eq_some_iff.mp h).1
  have l2 := (List.getElem?_eq_some_iff.mp h2).1
  rw [List.getElem?_append_left (by simp; omega), List.getElem?_zipWith, h, h2]
theorem rho0_dat {ms : List Bool} {ds : List D} {n i : Nat} {s : Sl} {d : D} (hl : ds.length = ms.length) (h : (rho0 ms ds n)[i]? = some s) (h2 : s.dat = some d) : ∃ b, ms[i]? = some b ∧ ds[i]? = some d ∧ s = if b then .io d else .dt d := by
  by_cases hi : i < ms.length
  · have e1 : ms[i]? = some ms[i] := List.getElem?_eq_getElem hi
    have e2 : ds[i]? = some (ds[i]'(by omega)) := List.getElem?_eq_getElem _
    rw [rho0_at e1 e2] at h
    cases h
    refine ⟨ms[i], e1, ?_, ?_⟩ <;> cases hb : ms[i] <;> rw [hb] at h2 <;> cases h2 <;> first | exact e2 | rfl
  · unfold rho0 at h
    rw [List.getElem?_append_right (by simp; omega), List.getElem?_replicate] at h
    split at h <;> cases h
    cases h2
/-- THE RULE for a def: its body computes B -/
theorem fn_ok {x qual : Str} {st : Stmt} {f : Addr} {fd : FuncData} {N ps : List Str} {k : Nat} {ms : List Bool} {B : FS} {n : Nat} (F : Fun K x qual st f fd) (S : FnScope N ps (defScope st)) (hms : ms.length = ps.length) (hn : N.length = n)
    (hbody : ∀ (cdv : Value) (A : Around) (outer : List Env) (s : Shared) (H : Hp) (E : XK), Room k (A.deeper (envOfC qual (defScope st) s.heap.objs.size f cdv)) →
      XSs' (cxOf (L2.CX P w) P w K mg base N qual (defScope st) f cdv A outer s H E) (CtE K mg E) (defBody st) B) : FnOk P w K mg base (L2.CX P w) (k + 1) f fd ps (spF K mg ms (runF ms n B)) := by
  refine F.okX S (fun vs H Q E ⟨ds, gs, a, _⟩ => a.l1.trans hms) fun cdv A outer s H vs Q E hr ⟨ds, gs, a, h⟩ => ⟨_, hbody cdv A outer s H E hr, ?_⟩
  have hpl : ps.length ≤ N.length := by have := congrArg List.length S.pre; rw [List.length_take] at this; omega
  refine ⟨rho0 ms ds n, fun i => match vs[i]? with | some (.ref a) => a | _ => 0, gs, ⟨fun i s d h1 h2 => ?_, fun i d h1 => ?_, fun i b hb => ?_, a.nd, a.dj, ?_⟩, ?_⟩
  · obtain ⟨b, e1, e2, _⟩ := rho0_dat a.l2 h1 h2
    have l := (List.getElem?_eq_some_iff.mp e1).1
    have hv : vs[i]? = some (vs[i]'(by have := a.l1; omega)) := List.getElem?_eq_getElem _
    exact ⟨_, start_at (by have := a.l1; omega), a.rep i _ d hv e2⟩
  · obtain ⟨b, e1, e2, e3⟩ := rho0_dat a.l2 h1 rfl
    cases b with
    | false => cases e3
    | true =>
      obtain ⟨p, hp⟩ := a.ref i e1
      have l := (List.getElem?_eq_some_iff.mp hp).1
      rw [start_at l]
      rw [List.getElem?_eq_getElem l] at hp
      have hp' := Option.some.inj hp
      simp only [List.getElem?_eq_getElem l, hp']
  · by_cases e1 : ms[i]? = some true
    · have l := (List.getElem?_eq_some_iff.mp e1).1
      have e2 : ds[i]? = some (ds[i]'(by have := a.l2; omega)) := List.getElem?_eq_getElem _
      exact ⟨_, _, rho0_at e1 e2, rfl⟩
    · have := a.emp i e1
      rw [this] at hb; cases hb
  · unfold rho0 L2.start
    simp [a.l1, a.l2, hms, hn]
  · -- the end
    unfold runF at h
    have back : ∀ {ρ' : Rho} {os : List D} {σ' : L2.St} {H' : Hp} {F' : Fp}, lent ms ρ' = some os → EnvR K (fun i => match vs[i]? with | some (.ref a) => a | _ => 0) σ' H' ρ' F' →
        Back K ms vs os H' (fun i => if ms[i]? = some true then F' i else []) := fun {ρ' os σ' H' F'} hl e => by
      refine ⟨fun i p d h1 h2 h3 => ?_, fun i => ?_, fun i j b h1 h2 => ?_, fun i h1 => if_neg h1⟩
      · obtain ⟨d', h4, h5⟩ := lent_at hl h1
        rw [h3] at h5; cases h5
        rw [if_pos h1]
        obtain ⟨v, hv, wv⟩ := e.rep i _ d h4 rfl
        have := e.io i d h4
        simp only [h2] at this
        rw [hv] at this; cases this
        exact wv
      · split
        · exact e.nd i
        · exact List.nodup_nil
      · split at h1
        · split at h2
          · exact e.dj i j b h1 h2
          · cases h2
        · cases h1
    have sub : ∀ {F' : Fp} {b : Addr}, fsS (fun i => if ms[i]? = some true then F' i else []) b → fsS F' b := fun {F' b} ⟨i, hi⟩ => by
      dsimp only at hi
      split at hi
      · exact ⟨i, hi⟩
      · cases hi
    cases hB : B (rho0 ms ds n) with
    | no => rw [hB] at h; exact h
    | err c fs ρ' =>
      rw [hB] at h
      intro C od σ' H' F' hm e st x
      simp only at h
      cases hos : lent ms ρ' with
      | none => rw [hos] at h; exact False.elim h
      | some os =>
        rw [hos] at h
        exact h C od H' _ (lent_len hos) hm (back hos e) x (st.sub fun b q => sub q)
    | ok fl ρ' =>
      rw [hB] at h
      cases fl with
      | bk => exact False.elim h
      | ct => exact False.elim h
      | nx =>
        intro σ' H' F' e st
        simp only at h
        cases hos : lent ms ρ' with
        | none => rw [hos] at h; exact False.elim h
        | some os =>
          rw [hos] at h
          exact h .non H' [] _ (lent_len hos) (back hos e) (.fz .non) List.nodup_nil (fun a ha => nomatch ha) (st.sub fun b q => sub (plus_nil b q))
      | rt d =>
        intro v σ' H' F' g e st wv nd dj
        simp only at h
        cases hos : lent ms ρ' with
        | none => rw [hos] at h; exact False.elim h
        | some os =>
          rw [hos] at h
          exact h v H' g _ (lent_len hos) (back hos e) wv nd (fun b hb q => dj b hb (sub q)) (st.sub fun b q => q.imp sub id)
end

/-! ### calls -/
def pairs : List Bool → List R → Nat → List (Nat × Nat)
  | true :: ms, .bor i :: rs, p => (i, p) :: pairs ms rs (p + 1)
  | _ :: ms, _ :: rs, p => pairs ms rs (p + 1)
  | _, _, _ => []
def lends (d : D) : Bool := match d with
  | .nd k _ => !k.isF
  | _ => false
def argsOf (ρ : Rho) : List Bool → List R → Option (List D)
  | [], [] => some []
  | false :: ms, .val d :: rs => if d.isF then (match argsOf ρ ms rs with | some ds => some (d :: ds) | none => none) else none
  | true :: ms, .bor i :: rs => (match slot ρ i with
    | some d => if lends d then (match argsOf ρ ms rs with | some ds => some (d :: ds) | none => none) else none
    | none => none)
  | _, _ => none
def wbS (s : Sl) (d : D) : Sl := match s with
  | .io _ => .io d
  | _ => .dt d
def wb (os : List D) : List (Nat × Nat) → Rho → Rho
  | [], ρ => ρ
  | (i, p) :: L, ρ => wb os L (match ρ[i]? with
    | some s => ρ.set i (wbS s (os.getD p .non))
    | none => ρ)
def callU (ms : List Bool) (F : List D → CO) (rs : List R) (ρ : Rho) : Out R :=
  if ((pairs ms rs 0).map (·.1)).Nodup then
    match argsOf ρ ms rs with
    | some ds => (match F ds with
      | .ok res os => .ok (.val res) (wb os (pairs ms rs 0) ρ)
      | .err c fs os => .err c fs (wb os (pairs ms rs 0) ρ)
      | .no => .no)
    | none => .no
  else .no
def fCallU (ms : List Bool) (F : List D → CO) (fs : FA) : FE := fun ρ => (fs ρ).bind (callU ms F)

def look (L : List (Nat × Nat)) (j : Nat) : Option Nat := match L.find? (fun q => q.1 == j) with
  | some q => some q.2
  | none => none
theorem look_mem {L : List (Nat × Nat)} {j p : Nat} (h : look L j = some p) : (j, p) ∈ L := by
  unfold look at h
  split at h
  · rename_i q hq
    cases h
    have h1 := List.find?_some hq
    have h2 := List.mem_of_find?_eq_some hq
    have : q.1 = j := by simpa using h1
    subst this
    exact h2
  · cases h
theorem look_none {L : List (Nat × Nat)} {j p : Nat} (h : look L j = none) : (j, p) ∉ L := fun m => by
  unfold look at h
  split at h
  · cases h
  · rename_i hq
    have := List.find?_eq_none.mp hq (j, p) m
    simp at this
theorem look_of {L : List (Nat × Nat)} {j p : Nat} (nd : (L.map (·.1)).Nodup) (h : (j, p) ∈ L) : look L j = some p := by
  induction L with
  | nil => cases h
  | cons q L ih =>
    simp only [List.map_cons, List.nodup_cons] at nd
    unfold look
    by_cases hq : q.1 = j
    · rw [List.find?_cons_of_pos (by simp [hq])]
      rcases List.mem_cons.mp h with e | h
      · rw [← e]
      · exact absurd (List.mem_map.mpr ⟨(j, p), h, hq.symm⟩) nd.1
    · rw [List.find?_cons_of_neg (by simp [hq])]
      rcases List.mem_cons.mp h with e | h
      · rw [← e] at hq; exact absurd rfl hq
      · exact ih nd.2 h
theorem wb_len {os : List D} : ∀ {L : List (Nat × Nat)} {ρ : Rho}, (wb os L ρ).length = ρ.length
  | [], ρ => rfl
  | (i, p) :: L, ρ => by
    unfold wb
    rw [wb_len]
    split
    · simp
    · rfl
theorem wb_at {os : List D} : ∀ {L : List (Nat × Nat)} {ρ : Rho} (nd : (L.map (·.1)).Nodup) (j : Nat), (wb os L ρ)[j]? = match look L j with
    | some p => (match ρ[j]? with | some s => some (wbS s (os.getD p .non)) | none => none)
    | none => ρ[j]?
  | [], ρ, nd, j => rfl
  | (i, p) :: L, ρ, nd, j => by
    simp only [List.map_cons, List.nodup_cons] at nd
    have key : ∀ ρ1 : Rho, ρ1[j]? = (if i = j then (match ρ[j]? with | some s => some (wbS s (os.getD p .non)) | none => none) else ρ[j]?) → (wb os L ρ1)[j]? = match look ((i, p) :: L) j with
        | some p => (match ρ[j]? with | some s => some (wbS s (os.getD p .non)) | none => none)
        | none => ρ[j]? := fun ρ1 h1 => by
      rw [wb_at nd.2 j, h1]
      by_cases hij : i = j
      · subst hij
        have e1 : look ((i, p) :: L) i = some p := by unfold look; rw [List.find?_cons_of_pos (by simp)]
        have e2 : look L i = none := by
          cases e : look L i with
          | none => rfl
          | some q => exact absurd (List.mem_map.mpr ⟨_, look_mem e, rfl⟩) nd.1
        rw [e1, e2, if_pos rfl]
      · have e1 : look ((i, p) :: L) j = look L j := by unfold look; rw [List.find?_cons_of_neg (by simpa using hij)]
        rw [e1, if_neg hij]
    rw [wb]
    apply key
    cases hs : ρ[i]? with
    | none =>
      by_cases hij : i = j
      · subst hij; rw [if_pos rfl]; simp only [hs]
      · rw [if_neg hij]
    | some s =>
      by_cases hij : i = j
      · subst hij
        rw [if_pos rfl]
        simp only [hs]
        exact List.getElem?_set_self (List.getElem?_eq_some_iff.mp hs).1
      · rw [if_neg hij]
        exact List.getElem?_set_ne hij
theorem pairs_at : ∀ {ms : List Bool} {rs : List R} {p0 i p : Nat}, (i, p) ∈ pairs ms rs p0 → p0 ≤ p ∧ ms[p - p0]? = some true ∧ rs[p - p0]? = some (.bor i)
  | [], rs, p0, i, p, h => by cases rs <;> cases h
  | b :: ms, [], p0, i, p, h => by cases b <;> cases h
  | true :: ms, .bor k :: rs, p0, i, p, h => by
    rcases List.mem_cons.mp h with e | h
    · cases e; simp
    · obtain ⟨h1, h2, h3⟩ := pairs_at h
      have e : p - p0 = (p - (p0 + 1)) + 1 := by omega
      exact ⟨by omega, by rw [e]; simpa using h2, by rw [e]; simpa using h3⟩
  | true :: ms, .val d :: rs, p0, i, p, h => by
    obtain ⟨h1, h2, h3⟩ := pairs_at (ms := ms) (rs := rs) h
    have e : p - p0 = (p - (p0 + 1)) + 1 := by omega
    exact ⟨by omega, by rw [e]; simpa using h2, by rw [e]; simpa using h3⟩
  | false :: ms, r :: rs, p0, i, p, h => by
    have h : (i, p) ∈ pairs ms rs (p0 + 1) := by cases r <;> exact h
    obtain ⟨h1, h2, h3⟩ := pairs_at (ms := ms) (rs := rs) h
    have e : p - p0 = (p - (p0 + 1)) + 1 := by omega
    exact ⟨by omega, by rw [e]; simpa using h2, by rw [e]; simpa using h3⟩
theorem pairs_of : ∀ {ms : List Bool} {rs : List R} {p0 i k : Nat}, ms[k]? = some true → rs[k]? = some (.bor i) → (i, p0 + k) ∈ pairs ms rs p0
  | [], rs, p0, i, k, h, _ => by simp at h
  | b :: ms, [], p0, i, k, _, h => by simp at h
  | b :: ms, r :: rs, p0, i, 0, h1, h2 => by
    simp at h1 h2
    subst h1; subst h2
    exact List.mem_cons_self
  | b :: ms, r :: rs, p0, i, k + 1, h1, h2 => by
    have ih := pairs_of (p0 := p0 + 1) (i := i) (k := k) (ms := ms) (rs := rs) (by simpa using h1) (by simpa using h2)
    have e : p0 + (k + 1) = p0 + 1 + k := by omega
    rw [e]
    cases b <;> cases r <;> first | exact ih | exact List.mem_cons_of_mem _ ih
theorem argsOf_at {ρ : Rho} : ∀ {ms : List Bool} {rs : List R} {ds : List D}, argsOf ρ ms rs = some ds → ds.length = ms.length ∧ rs.length = ms.length ∧ ∀ (p : Nat) b r d, ms[p]? = some b → rs[p]? = some r → ds[p]? = some d →
    (b = false ∧ r = .val d ∧ d.isF = true) ∨ (b = true ∧ ∃ i, r = .bor i ∧ slot ρ i = some d ∧ lends d = true)
  | [], [], ds, h => by cases h; exact ⟨rfl, rfl, fun p b r d h => by simp at h⟩
  | [], _ :: _, ds, h => nomatch h
  | true :: _, [], ds, h => nomatch h
  | false :: _, [], ds, h => nomatch h
  | false :: ms, .val x :: rs, ds, h => by
    unfold argsOf at h
    split at h
    · rename_i hx
      cases e : argsOf ρ ms rs with
      | none => rw [e] at h; cases h
      | some ds' =>
        rw [e] at h; cases h
        obtain ⟨l1, l2, c⟩ := argsOf_at e
        refine ⟨by simp [l1], by simp [l2], fun p b r d h1 h2 h3 => ?_⟩
        cases p with
        | zero => simp at h1 h2 h3; subst h1; subst h2; subst h3; exact .inl ⟨rfl, rfl, hx⟩
        | succ p => exact c p b r d (by simpa using h1) (by simpa using h2) (by simpa using h3)
    · cases h
  | true :: ms, .bor i :: rs, ds, h => by
    unfold argsOf at h
    split at h
    · rename_i x hx
      split at h
      · rename_i hl
        cases e : argsOf ρ ms rs with
        | none => rw [e] at h; cases h
        | some ds' =>
          rw [e] at h; cases h
          obtain ⟨l1, l2, c⟩ := argsOf_at e
          refine ⟨by simp [l1], by simp [l2], fun p b r d h1 h2 h3 => ?_⟩
          cases p with
          | zero => simp at h1 h2 h3; subst h1; subst h2; subst h3; exact .inr ⟨rfl, i, rfl, hx, hl⟩
          | succ p => exact c p b r d (by simpa using h1) (by simpa using h2) (by simpa using h3)
      · cases h
    · cases h
  | false :: ms, .bor i :: rs, ds, h => nomatch h
  | true :: ms, .val d :: rs, ds, h => nomatch h
theorem ResL.at_ {K : PySem.W.Frag} {σ : L2.St} {H : Hp} {F : Fp} {rs : List R} {vs : List V} {g : List Addr} (q : ResL K σ H F rs vs g) : rs.length = vs.length ∧ ∀ (p : Nat) r v, rs[p]? = some r → vs[p]? = some v → ∃ g', ResR K σ H F r v g' := by
  induction q with
  | nil => exact ⟨rfl, fun p r v h => by simp at h⟩
  | @cons r v g rs vs gs q t _ ih =>
    refine ⟨by simp [ih.1], fun p r' v' h1 h2 => ?_⟩
    cases p with
    | zero => simp at h1 h2; subst h1; subst h2; exact ⟨_, q⟩
    | succ p => exact ih.2 p r' v' (by simpa using h1) (by simpa using h2)
theorem lends_ref {K : PySem.W.Frag} {H : Hp} {v : V} {d : D} {g : List Addr} (w : Ow K H v d g) (h : lends d = true) : ∃ a, v = .ref a := by
  cases w with
  | fz w =>
    cases w with
    | nd h1 h2 h3 => exact ⟨_, rfl⟩
    | _ => cases h
  | nd h1 h2 h3 h4 => exact ⟨_, rfl⟩
  | tup h1 h2 h3 h4 => exact ⟨_, rfl⟩

/-- ahead of a call -/
theorem call_ahead {K : PySem.W.Frag} {A : Nat → Addr} {σ : L2.St} {H1 : Hp} {ρ1 : Rho} {F1 : Fp} {ms : List Bool} {rs : List R} {vs : List V} {g1 : List Addr} {ds : List D} (e1 : EnvR K A σ H1 ρ1 F1) (q1 : ResL K σ H1 F1 rs vs g1)
    (hnd : ((pairs ms rs 0).map (·.1)).Nodup) (ha : argsOf ρ1 ms rs = some ds) : Ahead K ms vs ds H1 (fun p => if ms[p]? = some true then (match rs[p]? with | some (.bor i) => F1 i | _ => []) else []) := by
  obtain ⟨l1, l2, c⟩ := argsOf_at ha
  obtain ⟨l3, q⟩ := q1.at_
  refine ⟨by omega, l1, fun p v d hv hd => ?_, fun p hp => ?_, fun p => ?_, fun p p' a h1 h2 => ?_, fun p hp => if_neg hp⟩
  · have lp := (List.getElem?_eq_some_iff.mp hd).1
    have em : ms[p]? = some (ms[p]'(by omega)) := List.getElem?_eq_getElem _
    have er : rs[p]? = some (rs[p]'(by omega)) := List.getElem?_eq_getElem _
    obtain ⟨g', qr⟩ := q p _ v er hv
    rcases c p _ _ d em er hd with ⟨hb, hr, hf⟩ | ⟨hb, i, hr, hs, hl⟩
    · rw [em, hb, if_neg (by simp)]
      rw [hr] at qr
      exact .fz (qr.1.isF hf).1
    · rw [em, hb, if_pos rfl, er, hr]
      rw [hr] at qr
      obtain ⟨s, hs1, hs2, _⟩ := slot_at hs
      obtain ⟨v', hv', w⟩ := e1.rep i s d hs1 hs2
      rw [qr.1] at hv'; cases hv'
      exact w
  · have lp := (List.getElem?_eq_some_iff.mp hp).1
    have er : rs[p]? = some (rs[p]'(by omega)) := List.getElem?_eq_getElem _
    have ev : vs[p]? = some (vs[p]'(by omega)) := List.getElem?_eq_getElem _
    have ed : ds[p]? = some (ds[p]'(by omega)) := List.getElem?_eq_getElem _
    obtain ⟨g', qr⟩ := q p _ _ er ev
    rcases c p _ _ _ hp er ed with ⟨hb, _⟩ | ⟨_, i, hr, hs, hl⟩
    · cases hb
    · rw [hr] at qr
      obtain ⟨s, hs1, hs2, _⟩ := slot_at hs
      obtain ⟨v', hv', w⟩ := e1.rep i s _ hs1 hs2
      rw [qr.1] at hv'; cases hv'
      obtain ⟨a, e⟩ := lends_ref w hl
      exact ⟨a, by rw [ev, e]⟩
  · split
    · split
      · exact e1.nd _
      · exact List.nodup_nil
    · exact List.nodup_nil
  · split at h1
    · rename_i m1
      split at h1
      · rename_i i r1
        split at h2
        · rename_i m2
          split at h2
          · rename_i j r2
            have ij := e1.dj i j a h1 h2
            subst ij
            have a1 := look_of hnd (pairs_of (p0 := 0) m1 r1)
            have a2 := look_of hnd (pairs_of (p0 := 0) m2 r2)
            rw [a1] at a2
            have := Option.some.inj a2
            omega
          · cases h2
        · cases h2
      · cases h1
    · cases h1
/-- behind a call -/
theorem call_behind {K : PySem.W.Frag} {A : Nat → Addr} {σ : L2.St} {H1 H' : Hp} {ρ1 : Rho} {F1 : Fp} {ms : List Bool} {rs : List R} {vs : List V} {g1 g : List Addr} {ds os : List D} {G' : Fp} (e1 : EnvR K A σ H1 ρ1 F1) (q1 : ResL K σ H1 F1 rs vs g1)
    (hnd : ((pairs ms rs 0).map (·.1)).Nodup) (ha : argsOf ρ1 ms rs = some ds) (lo : os.length = ms.length) (bk : Back K ms vs os H' G')
    (st : Stp H1 (fsS fun p => if ms[p]? = some true then (match rs[p]? with | some (.bor i) => F1 i | _ => []) else []) H' (plus (fsS G') g)) :
    ∃ F2, EnvR K A σ H' (wb os (pairs ms rs 0) ρ1) F2 ∧ (∀ a, fsS G' a ↔ ∃ j p, look (pairs ms rs 0) j = some p ∧ a ∈ G' p) ∧ Stp H1 (fsS F1) H' (plus (fsS F2) g) ∧ ∀ a, a ∈ g → fsS F2 a → fsS G' a := by
  obtain ⟨l1, l2, c⟩ := argsOf_at ha
  obtain ⟨l3, q⟩ := q1.at_
  obtain ⟨L, hL⟩ : ∃ L, L = pairs ms rs 0 := ⟨_, rfl⟩
  rw [← hL] at hnd ⊢
  have inL : ∀ {j p}, look L j = some p → ms[p]? = some true ∧ rs[p]? = some (.bor j) := fun {j p} h => by
    have := look_mem h
    rw [hL] at this
    simpa using (pairs_at this).2
  have lookp : ∀ {j p}, ms[p]? = some true → rs[p]? = some (.bor j) → look L j = some p := fun {j p} h1 h2 => by
    have := pairs_of (p0 := 0) h1 h2
    rw [← hL, Nat.zero_add] at this
    exact look_of hnd this
  have gsF : ∀ {b : Addr}, fsS (fun p => if ms[p]? = some true then (match rs[p]? with | some (.bor i) => F1 i | _ => []) else []) b → ∃ j p, look L j = some p ∧ b ∈ F1 j := fun {b} ⟨p, hp⟩ => by
    dsimp only at hp
    split at hp
    · rename_i m1
      split at hp
      · rename_i i r1
        exact ⟨i, p, lookp m1 r1, hp⟩
      · cases hp
    · cases hp
  have outp : ∀ {b : Addr} {o : HO}, H1 b = some o → (∀ j p, look L j = some p → b ∉ F1 j) → H' b = some o := fun {b o} eo h => st.1 b o eo fun z => by
    obtain ⟨j, p, h1, h2⟩ := gsF z
    exact h j p h1 h2
  have fixp : ∀ {b : Addr} {o : HO}, H1 b = some o → Fix o → H' b = some o := fun {b o} eo x => outp eo fun j p _ z => e1.notFix eo x ⟨j, z⟩
  have sep : ∀ {j k p : Nat} {a : Addr}, look L j = none → look L k = some p → a ∈ F1 j → a ∉ G' p := fun {j k p a} h1 h2 h3 h4 => by
    obtain ⟨o, eo, _⟩ := e1.mut ⟨j, h3⟩
    rcases st.2 a (.inl ⟨p, h4⟩) with z | z
    · rw [eo] at z; cases z
    · obtain ⟨j', p', h5, h6⟩ := gsF z
      have := e1.dj j j' a h3 h6
      subst this
      rw [h1] at h5; cases h5
  have slotOf : ∀ {j p}, look L j = some p → ∃ s d v, ρ1[j]? = some s ∧ s.dat = some d ∧ σ[j]? = some (some v) ∧ vs[p]? = some v ∧ ∃ a, v = .ref a := fun {j p} h => by
    obtain ⟨m1, r1⟩ := inL h
    have lp := (List.getElem?_eq_some_iff.mp m1).1
    have ev : vs[p]? = some (vs[p]'(by omega)) := List.getElem?_eq_getElem _
    have ed : ds[p]? = some (ds[p]'(by omega)) := List.getElem?_eq_getElem _
    obtain ⟨g', qr⟩ := q p _ _ r1 ev
    rcases c p _ _ _ m1 r1 ed with ⟨hb, _⟩ | ⟨_, i, hr, hs, hl⟩
    · cases hb
    · cases hr
      obtain ⟨s, hs1, hs2, _⟩ := slot_at hs
      obtain ⟨v', hv', w⟩ := e1.rep _ s _ hs1 hs2
      rw [qr.1] at hv'; cases hv'
      exact ⟨s, _, _, hs1, hs2, qr.1, ev, lends_ref w hl⟩
  refine ⟨fun j => match look L j with | some p => G' p | none => F1 j, ⟨fun j s d h1 h2 => ?_, fun j d h1 => ?_, fun j a h1 => ?_, fun j => ?_, fun j k a h1 h2 => ?_, ?_⟩, fun a => ⟨fun ⟨p, hp⟩ => ?_, fun ⟨j, p, _, h2⟩ => ⟨p, h2⟩⟩, ⟨fun b o eo n => ?_, fun b z => ?_⟩, fun a ha z => ?_⟩
  · rw [wb_at hnd] at h1
    cases hk : look L j with
    | none =>
      rw [hk] at h1
      obtain ⟨v, hv, w⟩ := e1.rep j s d h1 h2
      refine ⟨v, hv, w.stay fun b o eo z => ?_⟩
      rcases z with z | z
      · exact fixp eo z
      · exact outp eo fun j' p h3 h4 => by
          have := e1.dj j j' b z h4
          subst this
          rw [hk] at h3; cases h3
    | some p =>
      rw [hk] at h1
      obtain ⟨s0, d0, v, i1, i2, i3, i4, a, rfl⟩ := slotOf hk
      rw [i1] at h1
      cases h1
      obtain ⟨m1, r1⟩ := inL hk
      have lp := (List.getElem?_eq_some_iff.mp m1).1
      have eo : os[p]? = some (os[p]'(by omega)) := List.getElem?_eq_getElem _
      have ed : d = os[p]'(by omega) := by
        have : os.getD p .non = os[p]'(by omega) := by rw [List.getD_eq_getElem?_getD, eo]; rfl
        rw [this] at h2
        cases s0 <;> (cases h2; rfl)
      rw [ed]
      exact ⟨_, i3, bk.rep p a _ m1 i4 eo⟩
  · rw [wb_at hnd] at h1
    cases hk : look L j with
    | none => rw [hk] at h1; exact e1.io j d h1
    | some p =>
      rw [hk] at h1
      obtain ⟨s0, d0, v, i1, i2, i3, i4, a, rfl⟩ := slotOf hk
      rw [i1] at h1
      cases s0 with
      | io x => exact e1.io j x i1
      | dt x => cases h1
      | un => cases i2
  · rw [wb_at hnd]
    cases hk : look L j with
    | none => rw [hk] at h1; exact e1.emp j a h1
    | some p =>
      obtain ⟨s0, d0, v, i1, i2, i3, i4, a, rfl⟩ := slotOf hk
      simp only [i1]
      exact ⟨_, os.getD p .non, rfl, by cases s0 <;> rfl⟩
  · split
    · exact bk.nd _
    · exact e1.nd j
  · cases hk : look L j with
    | none =>
      rw [hk] at h1
      cases hk2 : look L k with
      | none => rw [hk2] at h2; exact e1.dj j k a h1 h2
      | some p => rw [hk2] at h2; exact absurd h2 (sep hk hk2 h1)
    | some p =>
      rw [hk] at h1
      cases hk2 : look L k with
      | none => rw [hk2] at h2; exact absurd h1 (sep hk2 hk h2)
      | some p2 =>
        rw [hk2] at h2
        have := bk.dj p p2 a h1 h2
        subst this
        have a1 := (inL hk).2
        have a2 := (inL hk2).2
        rw [a1] at a2
        cases a2
        rfl
  · rw [wb_len]; exact e1.len
  · by_cases m1 : ms[p]? = some true
    · have lp := (List.getElem?_eq_some_iff.mp m1).1
      have er : rs[p]? = some (rs[p]'(by omega)) := List.getElem?_eq_getElem _
      have ed : ds[p]? = some (ds[p]'(by omega)) := List.getElem?_eq_getElem _
      rcases c p _ _ _ m1 er ed with ⟨hb, _⟩ | ⟨_, i, hr, hs, hl⟩
      · cases hb
      · rw [hr] at er
        exact ⟨i, p, lookp m1 er, hp⟩
    · rw [bk.emp p m1] at hp; cases hp
  · exact outp eo fun j p _ z => n ⟨j, z⟩
  · rcases z with ⟨j, z⟩ | z
    · dsimp only at z
      cases hk : look L j with
      | none => rw [hk] at z; exact .inr ⟨j, z⟩
      | some p =>
        rw [hk] at z
        rcases st.2 b (.inl ⟨p, z⟩) with y | y
        · exact .inl y
        · obtain ⟨j', p', h5, h6⟩ := gsF y
          exact .inr ⟨j', h6⟩
    · rcases st.2 b (.inr z) with y | y
      · exact .inl y
      · obtain ⟨j', p', h5, h6⟩ := gsF y
        exact .inr ⟨j', h6⟩
  · obtain ⟨j, z⟩ := z
    dsimp only at z
    cases hk : look L j with
    | none =>
      rw [hk] at z
      obtain ⟨o, eo, _⟩ := e1.mut ⟨j, z⟩
      rcases st.2 a (.inr ha) with y | y
      · rw [eo] at y; cases y
      · obtain ⟨j', p', h5, h6⟩ := gsF y
        have := e1.dj j j' a z h6
        subst this
        rw [hk] at h5; cases h5
    | some p => rw [hk] at z; exact ⟨p, z⟩

section
variable {X : Cx} {Γ : Ct}
theorem x_call {x : Str} {k : Nat} {f : Addr} {fd : FuncData} {ps : List Str} {ms : List Bool} {F : List D → CO} {e : Expr} {es : List Expr} {fs : FA} {p pos : Pos} (fit : Fit X Γ)
    (G : FnOk X.prog X.w X.K X.mg X.base (L2.CX X.prog X.w) k f fd ps (spF X.K X.mg ms F)) (hr : Room k X.A) (hg : Gl X x) (hm : X.mg x = some (.ref f)) (hk : PySem.W.keepIn X.K (.ref f) = true) (hb : Binds X.K fd ps [])
    (ha : XA' X Γ (e :: es) fs) (hdb : (x == ("__debug__" : Str)) = false := by decide) (he : starEach (e :: es) X.env = (false, eval e X.env) :: starEach es X.env := by rfl) (hpl : (backTo pos (starEach es X.env)).any (·.1) = false := by rfl) :
    XE' X Γ (.Call (.Name x p) (e :: es) [] pos) (fCallU ms F fs) := by
  refine PE.imp (pe_callSD G hr hg hm hk hb .nil (E := WE Γ.W) fit.exc ha hdb he hpl) fun σ H Q ⟨ρ, A, F0, e, h⟩ => ?_
  refine ⟨ρ, A, F0, e, Go.bind h Stp.refl fun rs ρ1 vs H1 F1 g1 _ e1 st1 q1 h1 => ?_⟩
  rw [List.append_nil]
  unfold callU at h1
  split at h1
  · rename_i hnd
    split at h1
    · rename_i ds hds
      refine ⟨ds, _, by rw [← fit.K]; exact call_ahead e1 q1 hnd hds, ?_⟩
      have st1' : Stp H (fsS F0) H1 (fsS F1) := st1.sub fun b q => .inl q
      cases hF : F ds with
      | no => rw [hF] at h1; exact h1
      | err c fs' os =>
        rw [hF] at h1
        intro C od H' G' lo hmc bk xr st
        rw [← fit.K] at bk xr
        rw [← fit.mg] at hmc
        obtain ⟨F2, e2, _, st2, _⟩ := call_behind (g := []) e1 q1 hnd hds lo bk (st.sub plus_nil)
        exact h1 C od H' F2 hmc e2 (st1'.trans (st2.sub fun b q => .inl q)) xr
      | ok res os =>
        rw [hF] at h1
        intro v H' g G' lo bk wv nd dj st
        rw [← fit.K] at bk wv
        obtain ⟨F2, e2, _, st2, sf⟩ := call_behind e1 q1 hnd hds lo bk st
        refine Go.ok h1 e2 (st1'.trans st2) ⟨wv, nd, fun a ha z => ?_⟩
        exact dj a ha (sf a ha z)
    · exact False.elim h1
  · exact False.elim h1
end
end EE

/-! layer E, part G: what is walked; comprehensions -/
namespace EE
open PySem PySem.Spec
open PyProof.Rows hiding St
open L2

theorem PI.imp {X : Cx} {tg e : Expr} {t t' : TI} (h : PI X tg e t) (k : ∀ σ H Q, t' σ H Q → t σ H Q) : PI X tg e t' := ⟨fun pins s σ H R I q => h.run pins s σ H R I (k _ _ _ q)⟩
theorem PTs.imp {X : Cx} {e : List Expr} {t t' : TT} (h : PTs X e t) (k : ∀ σ H Q, t' σ H Q → t σ H Q) : PTs X e t' := ⟨fun pins s σ H Q I q => h.run pins s σ H Q I (k _ _ _ q)⟩
/-- a list or a tuple is walked -/
def iSeq (K : PySem.W.Frag) (tl : TE) : TI := fun σ H R => tl σ H fun x H1 => ∃ a, x = .ref a ∧ (((∃ xs, SqL K H1 a xs) ∧ R (Itl K a) H1) ∨ ((∃ xs, SqT K H1 a xs) ∧ R (Itt K a) H1))
theorem pi_seq {X : Cx} {tg l : Expr} {tl : TE} (hl : PE X l tl) : PI X tg l (iSeq X.K tl) := by
  refine ⟨fun pins s σ H R I h => ?_⟩
  refine thn (hl.run pins s σ H _ I h) fun v s1 ⟨x, H1, I1, r1, q1⟩ => ?_
  obtain ⟨a, e, q⟩ := q1
  subst e
  cases r1
  rcases q with ⟨⟨xs, hq⟩, q⟩ | ⟨⟨xs, hq⟩, q⟩
  · obtain ⟨its, rv, p, hz⟩ := I1.list hq
    refine wpAny_pyIter_list p.isList ?_
    refine ⟨s1.heap.objs.size, [s1.heap.objs.size], _, _, H1, rfl, I1.kept (t' := s1.toks) fun b o e => Heap.get?_push_of_some _ e, turn_list a _, ⟨_, Heap.get?_push_size _ rfl, rfl, rfl⟩, fun b hb => ?_, q⟩
    have e : b = s1.heap.objs.size := by simpa using hb
    subst e
    exact I1.fpOk (Nat.le_refl _) (I1.hok.fresh (Nat.le_refl _))
  · obtain ⟨its, rv, p, hz⟩ := I1.tuple hq
    refine wpAny_pyIter_tuple (show s1.heap.IsTuple a its.toArray from p) ?_
    refine ⟨s1.heap.objs.size, [s1.heap.objs.size], _, _, H1, rfl, I1.kept (t' := s1.toks) fun b o e => Heap.get?_push_of_some _ e, turn_tuple a _, ⟨_, Heap.get?_push_size _ rfl, rfl, rfl⟩, fun b hb => ?_, q⟩
    have e : b = s1.heap.objs.size := by simpa using hb
    subst e
    exact I1.fpOk (Nat.le_refl _) (I1.hok.fresh (Nat.le_refl _))
/-- unchanging lists, tuples of one content -/
theorem SqZ.inj {K : PySem.W.Frag} {H : Hp} {a : Addr} {xs ys : List V} (h : SqZ K H a xs) (h' : SqL K H a ys) (f : ∀ o, H a = some o → K.lookup a = none) : xs = ys := by
  rcases h with ⟨o, h⟩ | ⟨o, its, n, k1, k2, k3, k4, k5, k6⟩
  · rcases h' with (h' | ⟨o', h'⟩) | ⟨o', its', n', j1, j2, j3, j4, j5, j6⟩
    · rw [h] at h'; cases h'
    · rw [h] at h'; cases h'; rfl
    · rw [f _ h] at j1; cases j1
  · rcases h' with (h' | ⟨o', h'⟩) | ⟨o', its', n', j1, j2, j3, j4, j5, j6⟩
    · rw [f _ h'] at k1; cases k1
    · rw [f _ h'] at k1; cases k1
    · rw [k1] at j1; cases j1
      rw [k4] at j4; cases j4
      exact k6.inj j6

def itm (d : D) : Option (List D) := match d with
  | .nd .tup xs => some xs
  | .nd (.lst false) xs => some xs
  | _ => none
def iti (r : R) (ρ : Rho) : Out (List D) := match r with
  | .val d => (match itm d with
    | some xs => .ok xs ρ
    | none => .no)
  | .bor _ => .no
def fiSeq (f : FE) : FI := fun ρ => (fFz f ρ).bind iti
section
variable {X : Cx} {Γ : Ct}
theorem ItOk.seqL {K : PySem.W.Frag} {H1 : Hp} {a : Addr} {vs : List V} {xs : List D} (h : SqZ K H1 a vs) (hl : vs.length = xs.length) (c : ∀ (i : Nat) v d, vs[i]? = some v → xs[i]? = some d → Fz K H1 v d) : ItOk K (Itl K a) H1 xs := by
  intro i H kf
  have q := (h.stay kf).sq
  refine ⟨fun d hd => ?_, fun hi => ⟨vs, q, by omega⟩⟩
  obtain ⟨li, _⟩ := List.getElem?_eq_some_iff.mp hd
  have ev : vs[i]? = some (vs[i]'(by omega)) := List.getElem?_eq_getElem _
  refine ⟨⟨vs, _, q, ev⟩, fun x H' ⟨e1, e2⟩ => ?_⟩
  subst e1
  refine ⟨fun b o z => z, ?_⟩
  have := e2 vs q
  rw [ev] at this; cases this
  exact (c i _ d ev hd).stay kf
theorem ItOk.seqT {K : PySem.W.Frag} {H1 : Hp} {a : Addr} {vs : List V} {xs : List D} (h : SqT K H1 a vs) (hl : vs.length = xs.length) (c : ∀ (i : Nat) v d, vs[i]? = some v → xs[i]? = some d → Fz K H1 v d) : ItOk K (Itt K a) H1 xs := by
  intro i H kf
  have q := SqT.stay h kf
  refine ⟨fun d hd => ?_, fun hi => ⟨vs, q, by omega⟩⟩
  obtain ⟨li, _⟩ := List.getElem?_eq_some_iff.mp hd
  have ev : vs[i]? = some (vs[i]'(by omega)) := List.getElem?_eq_getElem _
  refine ⟨⟨vs, _, q, ev⟩, fun x H' ⟨e1, e2⟩ => ?_⟩
  subst e1
  refine ⟨fun b o z => z, ?_⟩
  have := e2 vs q
  rw [ev] at this; cases this
  exact (c i _ d ev hd).stay kf
mutual
theorem frz_isF : ∀ d : D, d.frz.isF = true
  | .non => rfl
  | .bl _ => rfl
  | .int _ => rfl
  | .str _ => rfl
  | .nd k xs => by
    show (k.frz.isF && D.isFL (D.frzL xs)) = true
    rw [frzL_isF xs]
    cases k <;> rfl
theorem frzL_isF : ∀ xs : List D, D.isFL (D.frzL xs) = true
  | [] => rfl
  | x :: xs => by
    show (D.isF (D.frz x) && D.isFL (D.frzL xs)) = true
    rw [frz_isF x, frzL_isF xs]
    rfl
end
theorem fFz_isF {f : FE} {ρ ρ' : Rho} {d : D} (h : fFz f ρ = .ok (.val d) ρ') : d.isF = true := by
  unfold fFz at h
  cases ho : fOwn f ρ with
  | no => rw [ho] at h; cases h
  | err c fs ρ1 => rw [ho] at h; cases h
  | ok r ρ1 =>
    rw [ho] at h
    cases r with
    | bor i => cases h
    | val x =>
      have h : (if x.isF then Out.ok (R.val x) ρ1 else .ok (.val x.frz) ρ1) = .ok (.val d) ρ' := h
      split at h
      · rename_i hx; cases h; exact hx
      · cases h; exact frz_isF x
theorem xi_seq {tg l : Expr} {f : FE} (hK : Γ.K = X.K) (h : XE' X Γ l f) : XI' X Γ tg l (fiSeq f) := by
  refine PI.imp (pi_seq (x_fz h)) fun σ H R ⟨ρ, A, F, e, h⟩ => ?_
  refine ⟨ρ, A, F, e, Go.bind h Stp.refl fun r ρ1 v H1 F1 g1 ho e1 st1 q1 h1 => ?_⟩
  unfold iti at h1
  cases r with
  | bor i => exact False.elim h1
  | val d =>
    simp only at h1
    split at h1
    · rename_i xs hx
      have hF := fFz_isF ho
      obtain ⟨w, nd, dj⟩ := q1
      have fin : ∀ J, ItOk Γ.K J H1 xs → R J H1 := fun J ok => Go.ok (g := []) h1 e1 (st1.sub fun b q => q.elim .inl fun z => nomatch z) ⟨ok, rfl⟩
      unfold itm at hx
      split at hx
      · cases hx
        cases w with
        | fz w =>
          cases w with
          | @nd a _ vs _ h1 h2 h3 => exact ⟨a, rfl, .inr ⟨⟨vs, by rw [← hK]; exact h1⟩, by rw [← hK]; exact fin _ (ItOk.seqT h1 h2 h3)⟩⟩
        | nd h1 h2 h3 h4 => exact False.elim h1
        | @tup a vs _ fs h1 h2 h3 h4 =>
          cases ((Ow.tup h1 h2 h3 h4).isF hF).1 with
          | @nd a _ vs' _ h1 h2 h3 => exact ⟨a, rfl, .inr ⟨⟨vs', by rw [← hK]; exact h1⟩, by rw [← hK]; exact fin _ (ItOk.seqT h1 h2 h3)⟩⟩
      · cases hx
        cases w with
        | fz w =>
          cases w with
          | @nd a _ vs _ h1 h2 h3 => exact ⟨a, rfl, .inl ⟨⟨vs, by rw [← hK]; exact SqZ.sq h1⟩, by rw [← hK]; exact fin _ (ItOk.seqL h1 h2 h3)⟩⟩
        | nd h1 h2 h3 h4 => exact False.elim h1
      · cases hx
    · exact False.elim h1
/-! ### ranges -/
def int1 : List D → Option Int
  | [.int j] => some j
  | _ => none
def upTo (lo : Int) (n : Nat) : List D := (List.range n).map fun i => D.int (lo + (i : Nat))
def Sm (j : Int) : Prop := -(2 ^ 62) ≤ j ∧ j < 2 ^ 62
noncomputable instance (j : Int) : Decidable (Sm j) := Classical.propDecidable _
noncomputable def rng1 (rs : List R) (ρ : Rho) : Out (List D) := match rds ρ rs with
  | some [.int j] => if Sm j then .ok (upTo 0 j.toNat) ρ else .no
  | _ => .no
noncomputable def rng2 (rs : List R) (ρ : Rho) : Out (List D) := match rds ρ rs with
  | some [.int i, .int j] => if Sm i ∧ Sm j then .ok (upTo i (j - i).toNat) ρ else .no
  | _ => .no
noncomputable def fiRng1 (fs : FA) : FI := fun ρ => (fs ρ).bind rng1
noncomputable def fiRng2 (fs : FA) : FI := fun ρ => (fs ρ).bind rng2
theorem ItOk.rng {K : PySem.W.Frag} {H1 : Hp} {lo : Int} {n : Nat} : ItOk K (Itr lo n) H1 (upTo lo n) := by
  intro i H kf
  have hl : (upTo lo n).length = n := by simp [upTo]
  refine ⟨fun d hd => ?_, fun hi => ?_⟩
  · have li := (List.getElem?_eq_some_iff.mp hd).1
    rw [hl] at li
    have : d = .int (lo + (i : Nat)) := by
      unfold upTo at hd
      rw [List.getElem?_map, List.getElem?_range li] at hd
      cases hd; rfl
    subst this
    refine ⟨li, fun x H' ⟨e1, e2⟩ => ?_⟩
    subst e1; subst e2
    exact ⟨fun b o z => z, .int _⟩
  · show n ≤ i
    omega
theorem Rds.int1 {K : PySem.W.Frag} {H : Hp} {vs : List V} {j : Int} (h : Rds K H vs [.int j]) : vs = [.int j] := by
  match vs, h with
  | [v], ⟨⟨g, w⟩, _⟩ => rw [w.int]
theorem Rds.int2 {K : PySem.W.Frag} {H : Hp} {vs : List V} {i j : Int} (h : Rds K H vs [.int i, .int j]) : vs = [.int i, .int j] := by
  match vs, h with
  | [v, v'], ⟨⟨g, w⟩, ⟨g', w'⟩, _⟩ => rw [w.int, w'.int]
theorem xi_rng1 {tg a : Expr} {fs : FA} {p pos : Pos} (hg : Gl X "range") (hm : X.mg "range" = none) (ha : XA' X Γ [a] fs) (hs : starEach [a] X.env = [(false, eval a X.env)] := by rfl) : XI' X Γ tg (.Call (.Name "range" p) [a] [] pos) (fiRng1 fs) := by
  refine PI.imp (pi_range1 hg hm ha hs) fun σ H R ⟨ρ, A, F, e, h⟩ => ?_
  refine ⟨ρ, A, F, e, Go.bind h Stp.refl fun rs ρ1 vs H1 F1 g1 _ e1 st1 q1 h1 => ?_⟩
  unfold rng1 at h1
  split at h1
  · rename_i j hj
    split at h1
    · rename_i hb
      have := Rds.int1 (q1.read e1 hj)
      subst this
      exact ⟨j, rfl, hb.1, hb.2, Go.ok (g := []) h1 e1 (st1.sub fun b q => q.elim .inl fun z => nomatch z) ⟨ItOk.rng, rfl⟩⟩
    · exact False.elim h1
  · exact False.elim h1
theorem xi_rng2 {tg a b : Expr} {fs : FA} {p pos : Pos} (hg : Gl X "range") (hm : X.mg "range" = none) (ha : XA' X Γ [a, b] fs) (hs : starEach [a, b] X.env = [(false, eval a X.env), (false, eval b X.env)] := by rfl) (hs2 : starEach [b] X.env = [(false, eval b X.env)] := by rfl) :
    XI' X Γ tg (.Call (.Name "range" p) [a, b] [] pos) (fiRng2 fs) := by
  refine PI.imp (pi_range2 hg hm ha hs hs2) fun σ H R ⟨ρ, A, F, e, h⟩ => ?_
  refine ⟨ρ, A, F, e, Go.bind h Stp.refl fun rs ρ1 vs H1 F1 g1 _ e1 st1 q1 h1 => ?_⟩
  unfold rng2 at h1
  split at h1
  · rename_i i j hj
    split at h1
    · rename_i hb
      have := Rds.int2 (q1.read e1 hj)
      subst this
      exact ⟨i, j, rfl, ⟨hb.1.1, hb.1.2, hb.2.1, hb.2.2⟩, Go.ok (g := []) h1 e1 (st1.sub fun b q => q.elim .inl fun z => nomatch z) ⟨ItOk.rng, rfl⟩⟩
    · exact False.elim h1
  · exact False.elim h1

/-! ### comprehensions -/
def wipeR (ρ : Rho) : List Nat → Rho
  | [] => ρ
  | v :: vs => (wipeR ρ vs).set v .un
def backR (ρ1 : Rho) : List Nat → Rho → Rho
  | [], ρ => ρ
  | v :: vs, ρ => (match ρ1[v]? with
    | some (.dt d) => if d.isF then (backR ρ1 vs ρ).set v (.dt d) else backR ρ1 vs ρ
    | _ => backR ρ1 vs ρ)
def lcL (G : FG) (T : FT) (E : FE) (own : List Nat) : List D → List D → Rho → Out (List D)
  | [], acc, ρ => .ok acc ρ
  | d :: ds, acc, ρ => match G d ρ with
    | .ok _ ρ1 => (match T ρ1 with
      | .ok true ρ2 => (match E ρ2 with
        | .ok (.val y) ρ3 => if acc.length < sizeLine then lcL G T E own ds (acc ++ [y]) (wipeR ρ3 own) else .no
        | _ => .no)
      | .ok false ρ2 => lcL G T E own ds acc (wipeR ρ2 own)
      | _ => .no)
    | _ => .no
def lcEnd (own : List Nat) (ρ1 : Rho) (o : Out (List D)) : Out R := match o with
  | .ok acc ρ => .ok (.val (.nd (.lst true) acc)) (backR ρ1 own ρ)
  | _ => .no
def fLC (fi : FI) (G : FG) (T : FT) (E : FE) (own : List Nat) : FE := fun ρ => (fi ρ).bind fun items ρ1 => lcEnd own ρ1 (lcL G T E own items [] (wipeR ρ1 own))
def fYes : FT := fun ρ => .ok true ρ
theorem xts_nil : PTs X [] (tT Γ fYes) := PTs.imp pts_nil fun σ H Q ⟨ρ, A, F, e, h⟩ => Go.ok (g := []) h e (Stp.refl.sub plus_nil) ⟨rfl, rfl⟩
theorem xts_one {c : Expr} {T : FT} (h : XT' X Γ c T) : PTs X [c] (tT Γ T) := pts_one h

theorem wipe_at {σ : L2.St} : ∀ {own : List Nat} (j : Nat), (wipe σ own)[j]? = if j ∈ own ∧ j < σ.length then some none else σ[j]?
  | [], j => by simp [wipe]
  | v :: vs, j => by
    unfold wipe
    by_cases hv : v = j
    · subst hv
      by_cases hl : v < σ.length
      · rw [List.getElem?_set_self (by rw [wipe_length]; exact hl), if_pos ⟨List.mem_cons_self, hl⟩]
      · rw [if_neg fun z => hl z.2, List.getElem?_eq_none (by rw [List.length_set, wipe_length]; omega), List.getElem?_eq_none (by omega)]
    · rw [List.getElem?_set_ne hv, wipe_at j]
      have : (j ∈ v :: vs) ↔ j ∈ vs := by simp [Ne.symm hv]
      simp only [this]
theorem wipe_eq {σ σ2 : L2.St} {own : List Nat} (hl : σ2.length = σ.length) (h : ∀ j, j ∉ own → σ2[j]? = (wipe σ own)[j]?) : wipe σ2 own = wipe σ own := by
  apply List.ext_getElem?
  intro j
  rw [wipe_at]
  by_cases hj : j ∈ own
  · rw [wipe_at]
    by_cases hl2 : j < σ.length
    · rw [if_pos ⟨hj, by omega⟩, if_pos ⟨hj, hl2⟩]
    · rw [if_neg fun z => hl2 (by omega), if_neg fun z => hl2 z.2, List.getElem?_eq_none (by omega), List.getElem?_eq_none (by omega)]
  · rw [if_neg fun z => hj z.1]
    exact h j hj
/-- the slots of the block's own names forgotten -/
theorem EnvR.wipe {K : PySem.W.Frag} {A : Nat → Addr} {H : Hp} : ∀ {own : List Nat} {σ : L2.St} {ρ : Rho} {F : Fp}, EnvR K A σ H ρ F → ∃ F', EnvR K A (L2.wipe σ own) H (wipeR ρ own) F' ∧ ∀ b, fsS F' b → fsS F b
  | [], σ, ρ, F, e => ⟨F, e, fun _ q => q⟩
  | v :: vs, σ, ρ, F, e => by
    obtain ⟨F', e', s⟩ := EnvR.wipe (own := vs) e
    have e2 := e'.gone (i := v)
    refine ⟨F'.put v [], ⟨fun j t d h1 h2 => ?_, fun j d h1 => ?_, e2.emp, e2.nd, e2.dj, ?_⟩, fun b q => s b ((Fp.put_sub q).elim id fun z => nomatch z)⟩
    · obtain ⟨u, hu, w⟩ := e2.rep j t d h1 h2
      refine ⟨u, ?_, w⟩
      unfold L2.wipe
      by_cases hj : v = j
      · subst hj
        have h1 : ((wipeR ρ vs).set v Sl.un)[v]? = some t := h1
        rw [List.getElem?_set] at h1
        simp only [if_true] at h1
        split at h1
        · cases h1; cases h2
        · cases h1
      · rw [List.getElem?_set_ne hj]; exact hu
    · unfold L2.wipe
      by_cases hj : v = j
      · subst hj
        have h1 : ((wipeR ρ vs).set v Sl.un)[v]? = some (.io d) := h1
        rw [List.getElem?_set] at h1
        simp only [if_true] at h1
        split at h1 <;> cases h1
      · rw [List.getElem?_set_ne hj]; exact e2.io j d h1
    · unfold L2.wipe wipeR
      rw [List.length_set, List.length_set]
      exact e'.len
/-- .. and what they held ahead, where that is frozen -/
theorem EnvR.back {K : PySem.W.Frag} {A : Nat → Addr} {H H1 : Hp} {σ : L2.St} {ρ1 : Rho} {F1 : Fp} (e1 : EnvR K A σ H1 ρ1 F1) (kf : ∀ b o, H1 b = some o → Fix o → H b = some o) : ∀ {own : List Nat} {ρ : Rho} {F : Fp}, EnvR K A (L2.wipe σ own) H ρ F → EnvR K A σ H (backR ρ1 own ρ) F
  | [], ρ, F, e => e
  | v :: vs, ρ, F, e => by
    -- the slot v is empty
    have hv : ∀ s d, ρ[v]? = some s → s.dat = some d → False := fun s d h1 h2 => by
      obtain ⟨u, hu, w⟩ := e.rep v s d h1 h2
      have hl := (List.getElem?_eq_some_iff.mp h1).1
      rw [e.len, wipe_length] at hl
      rw [wipe_at, if_pos ⟨List.mem_cons_self, hl⟩] at hu
      cases hu
    have e0 : EnvR K A (L2.wipe σ vs) H ρ F := by
      refine ⟨fun j s d h1 h2 => ?_, fun j d h1 => ?_, e.emp, e.nd, e.dj, by rw [e.len, wipe_length, wipe_length]⟩
      · obtain ⟨u, hu, w⟩ := e.rep j s d h1 h2
        refine ⟨u, ?_, w⟩
        by_cases hj : v = j
        · subst hj; exact absurd (hv s d h1 h2) (fun z => z)
        · have hu : ((L2.wipe σ vs).set v none)[j]? = some (some u) := hu
          rwa [List.getElem?_set_ne hj] at hu
      · have hu := e.io j d h1
        by_cases hj : v = j
        · subst hj; exact absurd (hv _ d h1 rfl) (fun z => z)
        · have hu : ((L2.wipe σ vs).set v none)[j]? = some (some (.ref (A j))) := hu
          rwa [List.getElem?_set_ne hj] at hu
    have hF : F v = [] := by
      cases hf : F v with
      | nil => rfl
      | cons a r =>
        obtain ⟨s, d, h1, h2⟩ := e.emp v a (by rw [hf]; exact List.mem_cons_self)
        exact absurd (hv s d h1 h2) (fun z => z)
    have ih := EnvR.back e1 kf e0
    unfold backR
    split
    · rename_i d hd
      split
      · rename_i hf
        obtain ⟨u, hu, w⟩ := e1.rep v _ d hd rfl
        have hl : v < (backR ρ1 vs ρ).length := by
          rw [ih.len, ← e1.len]
          exact (List.getElem?_eq_some_iff.mp hd).1
        have q := ih.put (σ' := σ) (s' := .dt d) (d := d) (i := v) (g := []) hl hu (fun _ _ => rfl) rfl (.fz ((w.isF hf).1.stay kf)) List.nodup_nil (fun a ha => nomatch ha) (fun x z => nomatch z) rfl
        have eF : F.put v [] = F := by
          funext j
          by_cases hj : j = v
          · subst hj; rw [Fp.put_same, hF]
          · rw [Fp.put_ne hj]
        rwa [eF] at q
      · exact ih
    · exact ih
theorem Stp.fixed {H H' : Hp} {S S' : Addr → Prop} (st : Stp H S H' S') (n : ∀ b o, H b = some o → Fix o → ¬ S b) : ∀ b o, H b = some o → Fix o → H' b = some o := fun b o e x => st.1 b o e (n b o e x)

/-- what is so between two turns of a comprehension -/
structure LcAt (K : PySem.W.Frag) (A : Nat → Addr) (σ : L2.St) (own : List Nat) (H0 : Hp) (S0 : Addr → Prop) (D0 : Addr) (H : Hp) (ρ : Rho) (F : Fp) (acc : List D) (vs : List V) (fs : List (List Addr)) : Prop where
  env : EnvR K A (L2.wipe σ own) H ρ F
  at_ : H D0 = some (.lst vs)
  l1 : vs.length = acc.length
  l2 : fs.length = acc.length
  rep : ∀ (i : Nat) v d f, vs[i]? = some v → acc[i]? = some d → fs[i]? = some f → Ow K H v d f
  nd : (D0 :: fs.flatten).Nodup
  dj : ∀ a ∈ D0 :: fs.flatten, ¬ fsS F a
  st : Stp H0 S0 H (plus (fsS F) (D0 :: fs.flatten))
theorem LcAt.trk {K : PySem.W.Frag} {A : Nat → Addr} {σ : L2.St} {own : List Nat} {H0 : Hp} {S0 : Addr → Prop} {D0 : Addr} {H : Hp} {ρ : Rho} {F : Fp} {acc : List D} {vs : List V} {fs : List (List Addr)} (h : LcAt K A σ own H0 S0 D0 H ρ F acc vs fs) :
    ∀ a ∈ D0 :: fs.flatten, ∃ o, H a = some o ∧ Mut (some o) := fun a ha => by
  rcases List.mem_cons.mp ha with rfl | ha
  · exact ⟨_, h.at_, trivial⟩
  · obtain ⟨f, hf, hb⟩ := List.mem_flatten.mp ha
    obtain ⟨i, hi, e⟩ := List.getElem_of_mem hf
    have := h.l1
    have := h.l2
    exact (h.rep i (vs[i]'(by omega)) (acc[i]'(by omega)) f (List.getElem?_eq_getElem _) (List.getElem?_eq_getElem _) (by rw [← e]; exact List.getElem?_eq_getElem hi)).mut a hb
/-- .. over a step that doesn't touch the new list -/
theorem LcAt.step {K : PySem.W.Frag} {A : Nat → Addr} {σ : L2.St} {own : List Nat} {H0 : Hp} {S0 : Addr → Prop} {D0 : Addr} {H H2 : Hp} {ρ : Rho} {F F2 : Fp} {g : List Addr} {acc : List D} {vs : List V} {fs : List (List Addr)}
    (h : LcAt K A σ own H0 S0 D0 H ρ F acc vs fs) (st : Stp H (fsS F) H2 (plus (fsS F2) g)) : H2 D0 = some (.lst vs) ∧ (∀ (i : Nat) v d f, vs[i]? = some v → acc[i]? = some d → fs[i]? = some f → Ow K H2 v d f) ∧
      (∀ a ∈ D0 :: fs.flatten, ¬ fsS F2 a ∧ a ∉ g) ∧ Stp H0 S0 H2 (plus (fsS F2) (D0 :: fs.flatten ++ g)) := by
  have kp : ∀ b o, H b = some o → (Fix o ∨ b ∈ D0 :: fs.flatten) → H2 b = some o := fun b o e z => st.1 b o e (z.elim (fun z => h.env.notFix e z) fun z => h.dj b z)
  refine ⟨kp _ _ h.at_ (.inr List.mem_cons_self), fun i v d f e1 e2 e3 => (h.rep i v d f e1 e2 e3).stay fun b o e z => kp b o e (z.imp id fun z => List.mem_cons_of_mem _ (mem_flat e3 z)), fun a ha => ?_, h.st.trans (st.frame.sub fun b q => ?_)⟩
  · obtain ⟨o, eo, _⟩ := h.trk a ha
    refine ⟨fun z => ?_, fun z => ?_⟩
    · rcases st.2 a (.inl z) with q | q
      · rw [eo] at q; cases q
      · exact h.dj a ha q
    · rcases st.2 a (.inr z) with q | q
      · rw [eo] at q; cases q
      · exact h.dj a ha q
  · rcases q with q | q
    · exact .inl (.inl q)
    · rcases List.mem_append.mp q with q | q
      · exact .inr q
      · exact .inl (.inr q)
theorem lc_go {dom : List Nat} {fi : FI} {G : FG} {T : FT} {E : FE} {ow : List Nat} (hd : ∀ j ∈ dom, j ∈ ow) (σ : L2.St) (H : Hp) (Q : VK) (h : tE Γ (fLC fi G T E ow) σ H Q) : tLc (tI Γ fi) (tGt Γ.blk G dom) (tT Γ.blk T) (tE Γ.blk E) ow σ H Q := by
  obtain ⟨ρ, A, F, e, h⟩ := h
  refine ⟨ρ, A, F, e, Go.bind h Stp.refl fun items ρ1 J H1 F1 g1 _ e1 st1 q1 h1 D0 nD => ?_⟩
  obtain ⟨iok, rfl⟩ := q1
  obtain ⟨F2, e2, s2⟩ := e1.wipe (own := ow)
  refine ⟨fun i m H' => i ≤ items.length ∧ m = items.length - i ∧ (∀ b o, H1 b = some o → Fix o → H' b = some o) ∧ ∃ ρ' F' acc vs fs, LcAt Γ.K A σ ow H (fsS F) D0 H' ρ' F' acc vs fs ∧ Go Γ A (ResR Γ.K) σ H (fsS F) (lcEnd ow ρ1 (lcL G T E ow (items.drop i) acc ρ')) Q,
    ⟨items.length, Nat.zero_le _, rfl, fun b o q _ => upd_keeps nD b o q, wipeR ρ1 ow, F2, [], [], [], ⟨e2.stay fun b o q _ => upd_keeps nD b o q, upd_same, rfl, rfl, fun i v d f h => (by simp at h), by simp, fun a ha z => ?_, ?_⟩, h1⟩, ?_⟩
  · have : a = D0 := by simpa using ha
    subst this
    obtain ⟨o, eo, _⟩ := e2.mut z
    rw [nD] at eo; cases eo
  · have s3 : Stp H (fsS F) H1 (fsS F2) := st1.sub fun b q => .inl (s2 b q)
    exact (s3.new (g := [D0]) fun b hb => by (have : b = D0 := by simpa using hb); rw [this]; exact nD).trans (Stp.same (upd_keeps nD))
  rintro i m H' ⟨hi', rfl, kf, ρ', F', acc, vs, fs, L, h2⟩
  obtain ⟨ok1, ok2⟩ := iok i H' kf
  by_cases hlt : i < items.length
  · refine .inr ⟨(ok1 items[i] (List.getElem?_eq_getElem hlt)).1, fun H'' => i + 1 ≤ items.length ∧ (∀ b o, H1 b = some o → Fix o → H'' b = some o) ∧ ∃ ρ' F' acc vs fs, LcAt Γ.K A σ ow H (fsS F) D0 H'' ρ' F' acc vs fs ∧ Go Γ A (ResR Γ.K) σ H (fsS F) (lcEnd ow ρ1 (lcL G T E ow (items.drop (i + 1)) acc ρ')) Q,
      fun H'' ⟨a, b, c⟩ => ⟨_, by omega, a, rfl, b, c⟩, fun x H3 y => ?_⟩
    obtain ⟨k3, w3⟩ := (ok1 items[i] (List.getElem?_eq_getElem hlt)).2 x H3 y
    rw [List.drop_eq_getElem_cons hlt] at h2
    unfold lcL at h2
    have e3 := L.env.stay fun b o q _ => k3 b o q
    refine ⟨ρ', A, F', items[i], [], e3, .fz w3, List.nodup_nil, (fun a ha => nomatch ha), ?_⟩
    have s3 : Stp H' (fsS F') H3 (fsS F') := Stp.same k3
    cases hG : G items[i] ρ' with
    | no => rw [hG] at h2; exact h2
    | err c fs ρ4 => rw [hG] at h2; exact h2
    | ok u ρ4 =>
      rw [hG] at h2
      dsimp only at h2
      intro σ4 H4 F4 e4 st4 dm
      have hw : L2.wipe σ4 ow = L2.wipe σ ow := wipe_eq (by rw [dm.1, wipe_length]) fun j hj => dm.2 j fun z => hj (hd j z)
      refine ⟨hw, ρ4, A, F4, e4, ?_⟩
      have s4 : Stp H' (fsS F') H4 (fsS F4) := s3.trans ((st4.weak fun b q => plus_nil b q))
      cases hT : T ρ4 with
      | no => rw [hT] at h2; exact False.elim h2
      | err c fs ρ5 => rw [hT] at h2; exact False.elim h2
      | ok b ρ5 =>
        rw [hT] at h2
        intro b' H5 F5 g5 e5 st5 q5
        obtain ⟨rfl, rfl⟩ := q5
        have s5 : Stp H' (fsS F') H5 (fsS F5) := s4.trans (st5.sub fun b q => .inl q)
        cases b with
        | false =>
          rw [if_neg Bool.false_ne_true]
          dsimp only at h2
          obtain ⟨a1, a2, a3, a4⟩ := L.step (g := []) (s5.sub plus_nil)
          obtain ⟨F6, e6, s6⟩ := e5.wipe (own := ow)
          rw [hw] at e6
          refine ⟨hlt, fun b o q x => s5.fix L.env b o (kf b o q x) x, _, F6, acc, vs, fs, ⟨e6, a1, L.l1, L.l2, a2, L.nd, fun a ha z => (a3 a ha).1 (s6 a z), a4.sub fun b q => ?_⟩, h2⟩
          rcases q with q | q
          · exact .inl (s6 b q)
          · exact .inr (by simpa using q)
        | true =>
          rw [if_pos rfl]
          dsimp only at h2
          refine ⟨ρ5, A, F5, e5, ?_⟩
          cases hE : E ρ5 with
          | no => rw [hE] at h2; exact False.elim h2
          | err c fs ρ6 => rw [hE] at h2; exact False.elim h2
          | ok r ρ6 =>
            rw [hE] at h2
            cases r with
            | bor k => exact False.elim h2
            | val y =>
              intro yv H6 F6 g6 e6 st6 q6
              dsimp only at h2
              split at h2
              · rename_i hsz
                obtain ⟨wy, ndy, djy⟩ := q6
                have s6 : Stp H' (fsS F') H6 (plus (fsS F6) g6) := s5.trans st6
                obtain ⟨a1, a2, a3, a4⟩ := L.step s6
                obtain ⟨F7, e7, s7⟩ := e6.wipe (own := ow)
                rw [hw] at e7
                refine ⟨vs, a1, by rw [L.l1]; exact hsz, hlt, fun b o q x => ?_, _, F7, acc ++ [y], vs ++ [yv], fs ++ [g6], ⟨?_, upd_same, by simp [L.l1], by simp [L.l2], fun i v d f h1 h2 h3 => ?_, ?_, fun a ha z => ?_, ?_⟩, h2⟩
                · have q' := s6.fix L.env b o (kf b o q x) x
                  rw [upd_ne fun z => ?_]
                  · exact q'
                  · subst z; rw [a1] at q'; cases q'; exact x
                · refine e7.stay fun b o q z => ?_
                  rw [upd_ne fun z' => ?_]
                  · exact q
                  · subst z'
                    rcases z with z | z
                    · rw [a1] at q; cases q; exact z
                    · exact (a3 b List.mem_cons_self).1 (s7 b z)
                · have keep : ∀ {v d f}, Ow Γ.K H6 v d f → D0 ∉ f → Ow Γ.K (upd H6 D0 (.lst (vs ++ [yv]))) v d f := fun {v d f} w n => w.stay fun b o q z => by
                    rw [upd_ne fun z' => ?_]
                    · exact q
                    · subst z'
                      rcases z with z | z
                      · rw [a1] at q; cases q; exact z
                      · exact n z
                  by_cases hi : i < vs.length
                  · rw [List.getElem?_append_left hi] at h1
                    rw [List.getElem?_append_left (by rw [← L.l1]; exact hi)] at h2
                    rw [List.getElem?_append_left (by rw [L.l2, ← L.l1]; exact hi)] at h3
                    exact keep (a2 i v d f h1 h2 h3) fun z => (List.nodup_cons.mp L.nd).1 (mem_flat h3 z)
                  · have hii : i = vs.length := by
                      have := (List.getElem?_eq_some_iff.mp h1).1
                      simp at this; omega
                    subst hii
                    rw [List.getElem?_append_right (Nat.le_refl _), Nat.sub_self] at h1
                    rw [L.l1, List.getElem?_append_right (Nat.le_refl _), Nat.sub_self] at h2
                    rw [L.l1, ← L.l2, List.getElem?_append_right (Nat.le_refl _), Nat.sub_self] at h3
                    cases h1; cases h2; cases h3
                    exact keep wy (a3 D0 List.mem_cons_self).2
                · rw [List.flatten_append]
                  simp only [List.flatten_cons, List.flatten_nil, List.append_nil]
                  rw [← List.cons_append]
                  refine List.nodup_append.mpr ⟨L.nd, ndy, fun a ha b hb z => ?_⟩
                  subst z
                  exact (a3 a ha).2 hb
                · rw [List.flatten_append] at ha
                  simp only [List.flatten_cons, List.flatten_nil, List.append_nil] at ha
                  rw [← List.cons_append] at ha
                  rcases List.mem_append.mp ha with ha | ha
                  · exact (a3 a ha).1 (s7 a z)
                  · exact djy a ha (s7 a z)
                · rw [List.flatten_append]
                  simp only [List.flatten_cons, List.flatten_nil, List.append_nil]
                  rw [← List.cons_append]
                  have sU : Stp H6 (plus (fsS F6) (D0 :: fs.flatten ++ g6)) (upd H6 D0 (.lst (vs ++ [yv]))) (plus (fsS F6) (D0 :: fs.flatten ++ g6)) := by
                    refine ⟨fun b o q n => ?_, fun b q => .inr q⟩
                    rw [upd_ne fun z => ?_]
                    · exact q
                    · subst z; exact n (.inr (by simp))
                  exact (a4.trans sU).sub fun b q => q.imp (s7 b) id
              · exact False.elim h2
  · have hie : i = items.length := by omega
    subst hie
    rw [List.drop_length] at h2
    refine .inl ⟨ok2 (Nat.le_refl _), ?_⟩
    have h2 : Go Γ A (ResR Γ.K) σ H (fsS F) (.ok (.val (.nd (.lst true) acc)) (backR ρ1 ow ρ')) Q := h2
    exact Go.ok (g := D0 :: fs.flatten) h2 (EnvR.back e1 kf L.env) L.st ⟨.nd (k := .lst true) L.at_ L.l1 L.l2 L.rep, L.nd, L.dj⟩
theorem x_lc {elt tg iter : Expr} {ifs : List Expr} {scope : Scope} {own : List (Str × Nat)} {dom : List Nat} {pos : Pos} {fi : FI} {G : FG} {T : FT} {E : FE} (hK : Γ.K = X.K) (hc : X.calm = true) (hN : X.N.Nodup) (hi : XI' X Γ tg iter fi) (ok : BlkOk X.N X.env.scope scope own)
    (hg : ∀ (s : Shared) (H : Hp) (C : Addr) (cl : List (Str × Addr)) (fp : List Addr), XG' (X.blk s H scope (compEnvC scope cl C X.env) fp) Γ.blk tg G dom) (ht : ∀ (s : Shared) (H : Hp) (C : Addr) (cl : List (Str × Addr)) (fp : List Addr), PTs (X.blk s H scope (compEnvC scope cl C X.env) fp) ifs (tT Γ.blk T))
    (he : ∀ (s : Shared) (H : Hp) (C : Addr) (cl : List (Str × Addr)) (fp : List Addr), XE' (X.blk s H scope (compEnvC scope cl C X.env) fp) Γ.blk elt E) (hd : ∀ j ∈ dom, j ∈ own.map (·.2)) (hs : ∀ x, foldedSetIterable iter X.env x = pure x := by intro _; rfl) :
    XE' X Γ (.ListComp elt [⟨tg, iter, ifs, 0⟩] scope pos) (fLC fi G T E (own.map (·.2))) :=
  PE.imp (pe_lc hc hN hi ok hg ht he hs) (lc_go hd)
theorem s_setLc {i : Nat} {y : Str} {py : Pos} {elt tg iter : Expr} {ifs : List Expr} {scope : Scope} {own : List (Str × Nat)} {dom : List Nat} {pos spos : Pos} {fi : FI} {G : FG} {T : FT} {E : FE} (hc : X.calm = true) (hN : X.N.Nodup) (hy : X.N[i]? = some y) (hyl : X.env.scope.names.lookup y = some .local)
    (hi : XI' X Γ tg iter fi) (ok : BlkOk X.N X.env.scope scope own)
    (hg : ∀ (s : Shared) (H : Hp) (C : Addr) (cl : List (Str × Addr)) (fp : List Addr), XG' (X.blk s H scope (compEnvC scope cl C X.env) fp) Γ.blk tg G dom) (ht : ∀ (s : Shared) (H : Hp) (C : Addr) (cl : List (Str × Addr)) (fp : List Addr), PTs (X.blk s H scope (compEnvC scope cl C X.env) fp) ifs (tT Γ.blk T))
    (he : ∀ (s : Shared) (H : Hp) (C : Addr) (cl : List (Str × Addr)) (fp : List Addr), XE' (X.blk s H scope (compEnvC scope cl C X.env) fp) Γ.blk elt E) (hd : ∀ j ∈ dom, j ∈ own.map (·.2))
    (hsw : swapsWith (.ListComp elt [⟨tg, iter, ifs, 0⟩] scope pos) (some (.Name y py)) spos.line X.env = pure true := by rfl) (hs : ∀ x, foldedSetIterable iter X.env x = pure x := by intro _; rfl) :
    XS' X Γ (.Assign [.Name y py] (.ListComp elt [⟨tg, iter, ifs, 0⟩] scope pos) spos) (fAsg (fLC fi G T E (own.map (·.2))) (gSet i)) := by
  refine PS.imp (ps_setLc hc hN hy hyl hsw hi ok hg ht he hs) fun D σ H h => ?_
  obtain ⟨ρ, A, F, e, h⟩ := h
  refine lc_go hd σ H _ ⟨ρ, A, F, e, Go.bindS h Stp.refl fun r ρ1 v H1 F1 g1 _ e1 st1 q1 h1 => ?_⟩
  cases r with
  | bor i => exact False.elim h1
  | val d => exact gName_of (Γ := Γ) ⟨ρ1, A, F1, d, g1, e1, q1.1, q1.2.1, q1.2.2, GoG.of h1 st1⟩
theorem pt_ifx {c a b : Expr} {tc ta tb : TT} {pos : Pos} (hc : PT X c tc) (ha : PT X a ta) (hb : PT X b tb) : PT X (.IfExp c a b pos) (fun σ H Q => tc σ H fun k H1 => if k = true then ta σ H1 Q else tb σ H1 Q) := by
  refine ⟨fun pins s σ H Q I h => ?_⟩
  show wpAny _ _ (isTrue c X.env (eval c X.env) >>= fun k => if k then isTrue a X.env (eval a X.env) else isTrue b X.env (eval b X.env)) _ _ s
  refine wpAny_bind (thn (hc.run pins s σ H _ I h) fun k s1 ⟨H1, I1, q1⟩ => ?_)
  cases k with
  | true => exact ha.run pins s1 σ H1 Q I1 q1
  | false => exact hb.run pins s1 σ H1 Q I1 q1
def ftIf (t f g : FT) : FT := fun ρ => (t ρ).bind fun b ρ1 => if b then f ρ1 else g ρ1
theorem xt_if {c a b : Expr} {t f g : FT} {pos : Pos} (hc : XT' X Γ c t) (ha : XT' X Γ a f) (hb : XT' X Γ b g) : XT' X Γ (.IfExp c a b pos) (ftIf t f g) := by
  refine PT.imp (pt_ifx hc ha hb) fun σ H Q h => tT_bind (Γ := Γ) (f := t) (k := fun b ρ1 => if b then f ρ1 else g ρ1) h fun b A S H1 ρ1 F1 e1 st h1 => ?_
  cases b with
  | true => exact ⟨ρ1, A, F1, e1, h1.shift st⟩
  | false => exact ⟨ρ1, A, F1, e1, h1.shift st⟩
end
end EE

/-! layer E, part H: what the operators and the built-in functions make of data -/
namespace EE
open PySem PySem.Spec
open PyProof.Rows hiding St
open L2

/-! ### equality -/
def kEq : Kd → Kd → Bool
  | .tup, .tup => true
  | .lst _, .lst _ => true
  | _, _ => false
mutual
/-- x == y -/
def D.eqb : D → D → Bool
  | .non, .non => true
  | .bl a, .bl b => a == b
  | .bl a, .int j => (if a then 1 else 0) == j
  | .int i, .bl b => i == (if b then 1 else 0)
  | .int i, .int j => i == j
  | .str x, .str y => x == y
  | .nd k xs, .nd k' ys => kEq k k' && D.eqbL xs ys
  | _, _ => false
def D.eqbL : List D → List D → Bool
  | [], [] => true
  | x :: xs, y :: ys => D.eqb x y && D.eqbL xs ys
  | _, _ => false
end
mutual
def toPy : D → PyData
  | .non => .none
  | .bl b => .bool b
  | .int i => .int i
  | .str x => .str x
  | .nd .tup xs => .tuple (toPyL xs)
  | .nd (.lst _) xs => .list (toPyL xs)
  | .nd (.dic _ _) _ => .dict []
def toPyL : List D → List PyData
  | [] => []
  | x :: xs => toPy x :: toPyL xs
end
theorem toPyL_map (xs : List D) : toPyL xs = xs.map toPy := by
  induction xs with
  | nil => rfl
  | cons x xs ih => simp [toPyL, ih]
def kOk : Kd → Bool
  | .tup => true
  | .lst _ => true
  | _ => false
/-- data that == takes: at most so deep -/
def D.ok : Nat → D → Bool
  | n + 1, .nd k xs => kOk k && xs.all (D.ok n)
  | 0, .nd _ _ => false
  | _, .str x => PyData.strOk x
  | _, _ => true
theorem D.ok_mono : ∀ {n m : Nat} {d : D}, D.ok n d = true → n ≤ m → D.ok m d = true
  | 0, m, .nd _ _, h, _ => by simp [D.ok] at h
  | n + 1, 0, .nd _ _, _, hm => absurd hm (by omega)
  | n + 1, m + 1, .nd k xs, h, hm => by
    simp only [D.ok, Bool.and_eq_true, List.all_eq_true] at h ⊢
    exact ⟨h.1, fun x hx => D.ok_mono (h.2 x hx) (by omega)⟩
  | n, m, .non, _, _ => by cases m <;> rfl
  | n, m, .bl _, _, _ => by cases m <;> rfl
  | n, m, .int _, _, _ => by cases m <;> rfl
  | n, m, .str x, h, _ => by
    have h : PyData.strOk x = true := by cases n <;> exact h
    cases m <;> exact h
mutual
theorem eqv_eqb : ∀ (x y : D), D.ok 1000 x = true ∨ True → (∀ n, D.ok n x = true → D.ok n y = true → PyData.eqv (toPy x) (toPy y) = D.eqb x y)
  | .non, y, _, n, _, hy => by
    cases y with
    | nd k ys => cases n with
      | zero => simp [D.ok] at hy
      | succ n => cases k <;> simp_all [D.ok, kOk, toPy, PyData.eqv, D.eqb]
    | _ => rfl
  | .bl a, y, _, n, _, hy => by
    cases y with
    | nd k ys => cases n with
      | zero => simp [D.ok] at hy
      | succ n => cases k <;> simp_all [D.ok, kOk, toPy, PyData.eqv, D.eqb]
    | _ => rfl
  | .int a, y, _, n, _, hy => by
    cases y with
    | nd k ys => cases n with
      | zero => simp [D.ok] at hy
      | succ n => cases k <;> simp_all [D.ok, kOk, toPy, PyData.eqv, D.eqb]
    | _ => rfl
  | .str a, y, _, n, _, hy => by
    cases y with
    | nd k ys => cases n with
      | zero => simp [D.ok] at hy
      | succ n => cases k <;> simp_all [D.ok, kOk, toPy, PyData.eqv, D.eqb]
    | _ => rfl
  | .nd k xs, y, _, n, hx, hy => by
    cases n with
    | zero => simp [D.ok] at hx
    | succ n =>
      cases y with
      | nd k' ys =>
        simp only [D.ok, Bool.and_eq_true, List.all_eq_true] at hx hy
        have ih := eqv_eqbL xs ys n hx.2 hy.2
        cases k <;> cases k' <;> simp_all [kOk, toPy, PyData.eqv, D.eqb, kEq]
      | _ =>
        simp only [D.ok, Bool.and_eq_true] at hx
        cases k <;> simp_all [kOk, toPy, PyData.eqv, D.eqb]
theorem eqv_eqbL : ∀ (xs ys : List D) (n : Nat), (∀ x ∈ xs, D.ok n x = true) → (∀ y ∈ ys, D.ok n y = true) → PyData.eqvAll (toPyL xs) (toPyL ys) = D.eqbL xs ys
  | [], [], _, _, _ => rfl
  | [], _ :: _, _, _, _ => rfl
  | _ :: _, [], _, _, _ => rfl
  | x :: xs, y :: ys, n, hx, hy => by
    show (PyData.eqv (toPy x) (toPy y) && PyData.eqvAll (toPyL xs) (toPyL ys)) = (D.eqb x y && D.eqbL xs ys)
    rw [eqv_eqb x y (.inr trivial) n (hx x List.mem_cons_self) (hy y List.mem_cons_self), eqv_eqbL xs ys n (fun z hz => hx z (List.mem_cons_of_mem _ hz)) (fun z hz => hy z (List.mem_cons_of_mem _ hz))]
end
mutual
theorem canLay_toPy : ∀ (d : D) (n : Nat), D.ok n d = true → (toPy d).canLay0 = true ∧ (toPy d).depth ≤ n
  | .non, n, _ => ⟨rfl, Nat.zero_le _⟩
  | .bl _, n, _ => ⟨rfl, Nat.zero_le _⟩
  | .int _, n, _ => ⟨rfl, Nat.zero_le _⟩
  | .str x, n, h => ⟨by cases n <;> exact h, Nat.zero_le _⟩
  | .nd k xs, n, h => by
    cases n with
    | zero => simp [D.ok] at h
    | succ n =>
      simp only [D.ok, Bool.and_eq_true, List.all_eq_true] at h
      obtain ⟨h1, h2⟩ := canLay_toPyL xs n h.2
      cases k with
      | tup => exact ⟨h1, Nat.succ_le_succ h2⟩
      | lst o => exact ⟨h1, Nat.succ_le_succ h2⟩
      | dic o ks => cases h.1
theorem canLay_toPyL : ∀ (xs : List D) (n : Nat), (∀ x ∈ xs, D.ok n x = true) → PyData.canLayAll0 (toPyL xs) = true ∧ PyData.depthAll (toPyL xs) ≤ n
  | [], n, _ => ⟨rfl, Nat.zero_le _⟩
  | x :: xs, n, h => by
    obtain ⟨h1, h2⟩ := canLay_toPy x n (h x List.mem_cons_self)
    obtain ⟨h3, h4⟩ := canLay_toPyL xs n fun z hz => h z (List.mem_cons_of_mem _ hz)
    refine ⟨?_, ?_⟩
    · show ((toPy x).canLay0 && PyData.canLayAll0 (toPyL xs)) = true
      rw [h1, h3]; rfl
    · show max (toPy x).depth (PyData.depthAll (toPyL xs)) ≤ n
      omega
end
theorem shaped_toPy {d : D} (h : D.ok 64 d = true) : SeqAt.shaped (toPy d) = true := by
  obtain ⟨h1, h2⟩ := canLay_toPy d 64 h
  show ((toPy d).canLay0 && decide ((toPy d).depth ≤ 64)) = true
  rw [h1, decide_eq_true h2]; rfl

section
variable {K : PySem.W.Frag} {H : Hp}
/-- a list, whatever its mark -/
theorem Ow.lst {v : V} {b : Bool} {xs : List D} {g : List Addr} (w : Ow K H v (.nd (.lst b) xs) g) : ∃ a vs, v = .ref a ∧ SqL K H a vs ∧ vs.length = xs.length ∧ ∀ (i : Nat) v d, vs[i]? = some v → xs[i]? = some d → ∃ g', Ow K H v d g' := by
  cases w with
  | fz w =>
    cases w with
    | @nd a _ vs _ h1 h2 h3 =>
      cases b with
      | true => exact False.elim h1
      | false => exact ⟨a, vs, rfl, SqZ.sq h1, h2, fun i v d e1 e2 => ⟨[], .fz (h3 i v d e1 e2)⟩⟩
  | @nd a _ vs _ fs h1 h2 h3 h4 =>
    cases b with
    | true =>
      refine ⟨a, vs, rfl, SqL.of h1, h2, fun i v d e1 e2 => ?_⟩
      have := (List.getElem?_eq_some_iff.mp e2).1
      exact ⟨_, h4 i v d (fs[i]'(by omega)) e1 e2 (List.getElem?_eq_getElem _)⟩
    | false => exact False.elim h1
theorem Ow.tpl {v : V} {xs : List D} {g : List Addr} (w : Ow K H v (.nd .tup xs) g) : ∃ a vs, v = .ref a ∧ SqT K H a vs ∧ vs.length = xs.length ∧ ∀ (i : Nat) v d, vs[i]? = some v → xs[i]? = some d → ∃ g', Ow K H v d g' := by
  cases w with
  | fz w =>
    cases w with
    | @nd a _ vs _ h1 h2 h3 => exact ⟨a, vs, rfl, h1, h2, fun i v d e1 e2 => ⟨[], .fz (h3 i v d e1 e2)⟩⟩
  | @nd a _ vs _ fs h1 h2 h3 h4 => exact False.elim h1
  | @tup a vs _ fs h1 h2 h3 h4 =>
    refine ⟨a, vs, rfl, h1, h2, fun i v d e1 e2 => ?_⟩
    have := (List.getElem?_eq_some_iff.mp e2).1
    exact ⟨_, h4 i v d (fs[i]'(by omega)) e1 e2 (List.getElem?_eq_getElem _)⟩
mutual
theorem Ow.dp : ∀ (d : D) (n : Nat) (v : V) (g : List Addr), Ow K H v d g → D.ok n d = true → Dp K H v (toPy d)
  | .non, n, v, g, w, _ => by rw [w.non]; exact .non
  | .bl b, n, v, g, w, _ => by rw [w.bl]; exact .bl b
  | .int i, n, v, g, w, _ => by rw [w.int]; exact .int i
  | .str x, n, v, g, w, _ => by rw [w.str]; exact .str x
  | .nd k xs, n, v, g, w, h => by
    cases n with
    | zero => simp [D.ok] at h
    | succ n =>
      simp only [D.ok, Bool.and_eq_true, List.all_eq_true] at h
      cases k with
      | tup =>
        obtain ⟨a, vs, rfl, h1, h2, h3⟩ := w.tpl
        exact .tup h1 (Ow.dpL xs n vs h2 h3 h.2)
      | lst o =>
        obtain ⟨a, vs, rfl, h1, h2, h3⟩ := w.lst
        exact .lst h1 (Ow.dpL xs n vs h2 h3 h.2)
      | dic o ks => cases h.1
theorem Ow.dpL : ∀ (xs : List D) (n : Nat) (vs : List V), vs.length = xs.length → (∀ (i : Nat) v d, vs[i]? = some v → xs[i]? = some d → ∃ g', Ow K H v d g') → (∀ x ∈ xs, D.ok n x = true) → DpAll K H vs (toPyL xs)
  | [], n, [], _, _, _ => .nil
  | x :: xs, n, [], hl, _, _ => by cases hl
  | [], n, v :: vs, hl, _, _ => by cases hl
  | x :: xs, n, v :: vs, hl, c, h => by
    obtain ⟨g', w⟩ := c 0 v x rfl rfl
    exact .cons (Ow.dp x n v g' w (h x List.mem_cons_self)) (Ow.dpL xs n vs (by simpa using hl) (fun i v d e1 e2 => c (i + 1) v d (by simpa using e1) (by simpa using e2)) fun z hz => h z (List.mem_cons_of_mem _ hz))
end
end

/-! ### operators on ints -/
def s2I (f : Int → Int → Option D) (x y : D) : Option D := match x, y with
  | .int i, .int j => f i j
  | _, _ => none
theorem rSem2_int {K : PySem.W.Frag} {f : Int → Int → Option D} {v w : V} {H : Hp} {Q : VK} (h : rSem2 K (s2I f) v w H Q) : ∃ i j z, v = .int i ∧ w = .int j ∧ f i j = some z ∧ PR K H z Q := by
  obtain ⟨x, y, z, g1, g2, w1, w2, hz, q⟩ := h
  unfold s2I at hz
  split at hz
  · exact ⟨_, _, z, w1.int, w2.int, hz, q⟩
  · cases hz
section
variable {K : PySem.W.Frag}
def sSub : D → D → Option D := s2I fun i j => some (.int (i - j))
theorem r_sub (v w : V) (H : Hp) (Q : VK) (h : rSem2 K sSub v w H Q) : rI0 (fun i j => .int (i - j)) v w H Q := by
  obtain ⟨i, j, z, rfl, rfl, hz, q⟩ := rSem2_int h
  cases hz
  exact ⟨i, j, rfl, rfl, q.here (.int _)⟩
noncomputable instance (i j : Int) : Decidable (CMul i j) := Classical.propDecidable _
noncomputable instance (i j : Int) : Decidable (CDiv i j) := Classical.propDecidable _
noncomputable instance (i j : Int) : Decidable (CPow i j) := Classical.propDecidable _
def sMod : D → D → Option D := s2I fun i j => if 0 < j then some (.int (i % j)) else none
theorem r_mod (v w : V) (H : Hp) (Q : VK) (h : rSem2 K sMod v w H Q) : rI (fun _ j => 0 < j) (fun i j => .int (i % j)) v w H Q := by
  obtain ⟨i, j, z, rfl, rfl, hz, q⟩ := rSem2_int h
  split at hz
  · rename_i hj
    cases hz
    exact ⟨i, j, rfl, rfl, hj, q.here (.int _)⟩
  · cases hz
noncomputable def sDiv : D → D → Option D := s2I fun i j => if CDiv i j then some (.int (i / j)) else none
theorem r_div (v w : V) (H : Hp) (Q : VK) (h : rSem2 K sDiv v w H Q) : rI CDiv (fun i j => .int (i / j)) v w H Q := by
  obtain ⟨i, j, z, rfl, rfl, hz, q⟩ := rSem2_int h
  split at hz
  · rename_i hj
    cases hz
    exact ⟨i, j, rfl, rfl, hj, q.here (.int _)⟩
  · cases hz
noncomputable def sPow : D → D → Option D := s2I fun i j => if CPow i j then some (.int (i ^ j.toNat)) else none
theorem r_pow (v w : V) (H : Hp) (Q : VK) (h : rSem2 K sPow v w H Q) : rI CPow (fun i j => .int (i ^ j.toNat)) v w H Q := by
  obtain ⟨i, j, z, rfl, rfl, hz, q⟩ := rSem2_int h
  split at hz
  · rename_i hj
    cases hz
    exact ⟨i, j, rfl, rfl, hj, q.here (.int _)⟩
  · cases hz
noncomputable def sShl : D → D → Option D := s2I fun i j => if CPow i j then some (.int (i * 2 ^ j.toNat)) else none
theorem r_shl (v w : V) (H : Hp) (Q : VK) (h : rSem2 K sShl v w H Q) : rI CPow (fun i j => .int (i * 2 ^ j.toNat)) v w H Q := by
  obtain ⟨i, j, z, rfl, rfl, hz, q⟩ := rSem2_int h
  split at hz
  · rename_i hj
    cases hz
    exact ⟨i, j, rfl, rfl, hj, q.here (.int _)⟩
  · cases hz
def sShr : D → D → Option D := s2I fun i j => if 0 ≤ j then some (.int (i / 2 ^ j.toNat)) else none
theorem r_shr (v w : V) (H : Hp) (Q : VK) (h : rSem2 K sShr v w H Q) : rI (fun _ j => 0 ≤ j) (fun i j => .int (i / 2 ^ j.toNat)) v w H Q := by
  obtain ⟨i, j, z, rfl, rfl, hz, q⟩ := rSem2_int h
  split at hz
  · rename_i hj
    cases hz
    exact ⟨i, j, rfl, rfl, hj, q.here (.int _)⟩
  · cases hz
def sAnd : D → D → Option D := s2I fun i j => some (.int (Builtin.bitAnd i j))
theorem r_and (v w : V) (H : Hp) (Q : VK) (h : rSem2 K sAnd v w H Q) : rI0 (fun i j => .int (Builtin.bitAnd i j)) v w H Q := by
  obtain ⟨i, j, z, rfl, rfl, hz, q⟩ := rSem2_int h
  cases hz
  exact ⟨i, j, rfl, rfl, q.here (.int _)⟩
/-! ### sums -/
def sAdd (x y : D) : Option D := match x, y with
  | .int i, .int j => some (.int (i + j))
  | .nd .tup xs, .nd .tup ys => if xs.length + ys.length ≤ sizeLine ∧ D.isFL xs = true ∧ D.isFL ys = true then some (.nd .tup (xs ++ ys)) else none
  | .nd (.lst _) xs, .nd (.lst _) ys => if xs.length + ys.length ≤ sizeLine ∧ D.isFL xs = true ∧ D.isFL ys = true then some (.nd (.lst true) (xs ++ ys)) else none
  | .str a, .str b => if a.length + b.length ≤ sizeLine then some (.str (a ++ b)) else none
  | _, _ => none
/-- two lists that are read -/
def rCatL (K : PySem.W.Frag) : R2 := fun x y H Q => ∃ a b xs ys, x = .ref a ∧ y = .ref b ∧ SqL K H a xs ∧ SqL K H b ys ∧ xs.length + ys.length ≤ sizeLine ∧ ∀ p, H p = none → Q (.ref p) (upd H p (.lst (xs ++ ys)))
theorem op_catL {X : Cx} : OpR X (binaryOp .Add) (rCatL X.K) := by
  intro pins s σ H x y v u Q I rx ry h
  obtain ⟨a, b, xs, ys, rfl, rfl, ha, hb, hz, q⟩ := h
  cases rx
  cases ry
  obtain ⟨its, r, p, _⟩ := I.list ha
  obtain ⟨its2, r2, p2, _⟩ := I.list hb
  obtain ⟨⟨cls, dd, data, sl⟩, n, ho, hc, hdn, hd⟩ := p
  obtain ⟨⟨cls2, dd2, data2, sl2⟩, n2, ho2, hc2, hdn2, hd2⟩ := p2
  simp only at hc hd hc2 hd2
  subst hc hd hc2 hd2
  have e : its.toArray ++ its2.toArray = (its ++ its2).toArray := by simp
  have l1 := r.length
  have l2 := r2.length
  refine concat_meets ⟨_, ho, rfl⟩ ⟨_, ho2, rfl⟩ noFill_list_add seq_list_add PySem.F.slot_list_add PySem.F.entry_list_add (PySem.F.args_list_add_2 _ _) (list_addW a b its.toArray its2.toArray n n2 dd dd2 sl sl2 (by simp; omega)) ⟨ho, ho2, ?_⟩
  rw [e]
  exact ⟨.ref _, _, I.lnew (t' := s.toks) (r.append r2) (by rw [List.length_append]; omega), rfl, q _ I.fresh⟩
def rAdd (K : PySem.W.Frag) : R2 := fun x y H Q => rI0 (fun i j => .int (i + j)) x y H Q ∨ rCatA K x y H Q ∨ rCatL K x y H Q ∨ (∃ i j, x = .str i ∧ y = .str j ∧ i.length + j.length ≤ sizeLine ∧ Q (.str (i ++ j)) H)
theorem op_addA {X : Cx} : OpR X (binaryOp .Add) (rAdd X.K) := op_add.or (op_catA.or (op_catL.or op_add_str))
theorem kids_fz {H : Hp} {vs : List V} {xs : List D} (h : ∀ (i : Nat) v d, vs[i]? = some v → xs[i]? = some d → ∃ g', Ow K H v d g') (hf : D.isFL xs = true) : ∀ (i : Nat) v d, vs[i]? = some v → xs[i]? = some d → Fz K H v d := fun i v d e1 e2 => by
  obtain ⟨g, w⟩ := h i v d e1 e2
  exact (w.isF (D.isFL_iff.mp hf d (List.mem_of_getElem? e2))).1
theorem kids_append {H : Hp} {vs ws : List V} {xs ys : List D} (l : vs.length = xs.length) (h1 : ∀ (i : Nat) v d, vs[i]? = some v → xs[i]? = some d → Fz K H v d) (h2 : ∀ (i : Nat) v d, ws[i]? = some v → ys[i]? = some d → Fz K H v d) :
    ∀ (i : Nat) v d, (vs ++ ws)[i]? = some v → (xs ++ ys)[i]? = some d → Fz K H v d := fun i v d e1 e2 => by
  by_cases hi : i < vs.length
  · rw [List.getElem?_append_left hi] at e1
    rw [List.getElem?_append_left (by omega)] at e2
    exact h1 i v d e1 e2
  · rw [List.getElem?_append_right (by omega)] at e1
    rw [List.getElem?_append_right (by omega), ← l] at e2
    exact h2 _ v d e1 e2
/-- a new list of frozen things -/
theorem PR.newL {H : Hp} {xs : List D} {vs : List V} {Q : VK} {p : Addr} (h : PR K H (.nd (.lst true) xs) Q) (np : H p = none) (l : vs.length = xs.length) (c : ∀ (i : Nat) v d, vs[i]? = some v → xs[i]? = some d → Fz K H v d) : Q (.ref p) (upd H p (.lst vs)) := by
  have k := upd_keeps (o := .lst vs) np
  have w : Ow K (upd H p (.lst vs)) (.ref p) (.nd (.lst true) xs) (p :: (List.replicate xs.length []).flatten) := .nd (k := .lst true) (show OwAt _ p (.lst true) vs from upd_same) l (by simp) fun i v d f e1 e2 e3 => by
    have : f = [] := List.eq_of_mem_replicate (List.mem_of_getElem? e3)
    subst this
    exact .fz ((c i v d e1 e2).stay fun b o e _ => k b o e)
  rw [List.flatten_replicate_nil] at w
  exact h _ _ [p] k w (by simp) fun a ha => by (have : a = p := by simpa using ha); rw [this]; exact np
theorem PR.newT {H : Hp} {xs : List D} {vs : List V} {Q : VK} {p : Addr} (h : PR K H (.nd .tup xs) Q) (np : H p = none) (l : vs.length = xs.length) (c : ∀ (i : Nat) v d, vs[i]? = some v → xs[i]? = some d → Fz K H v d) : Q (.ref p) (upd H p (.tup vs)) := by
  have k := upd_keeps (o := .tup vs) np
  exact h _ _ [] k (.fz (.nd (k := .tup) (SqT.of upd_same) l fun i v d e1 e2 => (c i v d e1 e2).stay fun b o e _ => k b o e)) List.nodup_nil fun a ha => nomatch ha
theorem r_add (v w : V) (H : Hp) (Q : VK) (h : rSem2 K sAdd v w H Q) : rAdd K v w H Q := by
  obtain ⟨x, y, z, g1, g2, w1, w2, hz, q⟩ := h
  unfold sAdd at hz
  split at hz
  · rename_i i j
    cases hz
    exact .inl ⟨i, j, w1.int, w2.int, q.here (.int _)⟩
  · rename_i xs ys
    split at hz
    · rename_i hc
      cases hz
      obtain ⟨a, vs, rfl, h1, h2, h3⟩ := w1.tpl
      obtain ⟨b, ws, rfl, k1, k2, k3⟩ := w2.tpl
      have c1 := kids_fz h3 hc.2.1
      have c2 := kids_fz k3 hc.2.2
      refine .inr (.inl ⟨a, b, vs, ws, rfl, rfl, h1, k1, by omega, fun e => ?_, fun e e' => ?_, fun _ _ p np => ?_⟩)
      · subst e
        have : xs = [] := List.eq_nil_of_length_eq_zero h2.symm
        subst this
        exact q.here (.nd (k := .tup) k1 k2 c2)
      · subst e'
        have : ys = [] := List.eq_nil_of_length_eq_zero k2.symm
        subst this
        rw [List.append_nil] at q
        exact q.here (.nd (k := .tup) h1 h2 c1)
      · exact q.newT np (by simp [h2, k2]) (kids_append h2 c1 c2)
    · cases hz
  · rename_i xs _ ys
    split at hz
    · rename_i hc
      cases hz
      obtain ⟨a, vs, rfl, h1, h2, h3⟩ := w1.lst
      obtain ⟨b, ws, rfl, k1, k2, k3⟩ := w2.lst
      exact .inr (.inr (.inl ⟨a, b, vs, ws, rfl, rfl, h1, k1, by omega, fun p np => q.newL np (by simp [h2, k2]) (kids_append h2 (kids_fz h3 hc.2.1) (kids_fz k3 hc.2.2))⟩))
    · cases hz
  · rename_i a b
    split at hz
    · rename_i hc
      cases hz
      exact .inr (.inr (.inr ⟨a, b, w1.str, w2.str, hc, q.here (.str _)⟩))
    · cases hz
  · cases hz
/-! ### products -/
noncomputable def sMul (x y : D) : Option D := match x, y with
  | .int i, .int j => if CMul i j then some (.int (i * j)) else none
  | _, _ => none
theorem r_mul (v w : V) (H : Hp) (Q : VK) (h : rSem2 K sMul v w H Q) : rI CMul (fun i j => .int (i * j)) v w H Q := by
  obtain ⟨x, y, z, g1, g2, w1, w2, hz, q⟩ := h
  unfold sMul at hz
  split at hz
  · rename_i i j
    split at hz
    · rename_i hc
      cases hz
      exact ⟨i, j, w1.int, w2.int, hc, q.here (.int _)⟩
    · cases hz
  · cases hz
/-! ### comparisons -/
def sLt : D → D → Option D := s2I fun i j => some (.bl (decide (i < j)))
def sLe : D → D → Option D := s2I fun i j => some (.bl (decide (i ≤ j)))
def sGt : D → D → Option D := s2I fun i j => some (.bl (decide (j < i)))
def sGe : D → D → Option D := s2I fun i j => some (.bl (decide (j ≤ i)))
theorem r_lt (v w : V) (H : Hp) (Q : VK) (h : rSem2 K sLt v w H Q) : rI0 (fun i j => .bl (decide (i < j))) v w H Q := by
  obtain ⟨i, j, z, rfl, rfl, hz, q⟩ := rSem2_int h
  cases hz
  exact ⟨i, j, rfl, rfl, q.here (.bl _)⟩
theorem r_le (v w : V) (H : Hp) (Q : VK) (h : rSem2 K sLe v w H Q) : rI0 (fun i j => .bl (decide (i ≤ j))) v w H Q := by
  obtain ⟨i, j, z, rfl, rfl, hz, q⟩ := rSem2_int h
  cases hz
  exact ⟨i, j, rfl, rfl, q.here (.bl _)⟩
theorem r_gt (v w : V) (H : Hp) (Q : VK) (h : rSem2 K sGt v w H Q) : rI0 (fun i j => .bl (decide (j < i))) v w H Q := by
  obtain ⟨i, j, z, rfl, rfl, hz, q⟩ := rSem2_int h
  cases hz
  exact ⟨i, j, rfl, rfl, q.here (.bl _)⟩
theorem r_ge (v w : V) (H : Hp) (Q : VK) (h : rSem2 K sGe v w H Q) : rI0 (fun i j => .bl (decide (j ≤ i))) v w H Q := by
  obtain ⟨i, j, z, rfl, rfl, hz, q⟩ := rSem2_int h
  cases hz
  exact ⟨i, j, rfl, rfl, q.here (.bl _)⟩
def sEq (x y : D) : Option D := if D.ok 64 x = true ∧ D.ok 64 y = true then some (.bl (D.eqb x y)) else none
def sNe (x y : D) : Option D := if D.ok 64 x = true ∧ D.ok 64 y = true then some (.bl (!D.eqb x y)) else none
theorem r_eq (v w : V) (H : Hp) (Q : VK) (h : rSem2 K sEq v w H Q) : rEqD K v w H Q := by
  obtain ⟨x, y, z, g1, g2, w1, w2, hz, q⟩ := h
  unfold sEq at hz
  split at hz
  · rename_i hc
    cases hz
    refine ⟨toPy x, toPy y, w1.dp _ 64 _ _ hc.1, w2.dp _ 64 _ _ hc.2, shaped_toPy hc.1, shaped_toPy hc.2, ?_⟩
    rw [eqv_eqb x y (.inr trivial) 64 hc.1 hc.2]
    exact q.here (.bl _)
  · cases hz
theorem r_ne (v w : V) (H : Hp) (Q : VK) (h : rSem2 K sNe v w H Q) : rNeD K v w H Q := by
  obtain ⟨x, y, z, g1, g2, w1, w2, hz, q⟩ := h
  unfold sNe at hz
  split at hz
  · rename_i hc
    cases hz
    refine ⟨toPy x, toPy y, w1.dp _ 64 _ _ hc.1, w2.dp _ 64 _ _ hc.2, shaped_toPy hc.1, shaped_toPy hc.2, ?_⟩
    rw [eqv_eqb x y (.inr trivial) 64 hc.1 hc.2]
    exact q.here (.bl _)
  · cases hz
/-- x in xs: a list or a tuple -/
def rInA (K : PySem.W.Frag) (neg : Bool) : R2 := fun x y H Q => ∃ d ds, Dp K H x d ∧ (Dp K H y (.list ds) ∨ Dp K H y (.tuple ds)) ∧ SeqAt.shaped d = true ∧ PyData.canLayAll0 ds = true ∧ Q (.bl (if neg then !ds.any fun z => PyData.eqv z d else ds.any fun z => PyData.eqv z d)) H
theorem op_inA {X : Cx} (hu : X.A.units + 65 < cLine) : OpR X (compareOp .In) (rInA X.K false) := by
  intro pins s σ H x y v u Q I rx ry h
  obtain ⟨d, ds, hd, he, sd, se, q⟩ := h
  obtain ⟨as, r1⟩ := Dp.reads I d x v hd rx
  rcases he with he | he
  · obtain ⟨bs, r2⟩ := Dp.reads I (.list ds) y u he ry
    exact SeqAt.in_list_reads r2 r1 se (SeqAt.canLay_of_shaped sd) (room_in_shaped sd hu) ⟨.bl _, H, I, rfl, q⟩
  · obtain ⟨bs, r2⟩ := Dp.reads I (.tuple ds) y u he ry
    exact SeqAt.in_tuple_reads r2 r1 se (SeqAt.canLay_of_shaped sd) (room_in_shaped sd hu) ⟨.bl _, H, I, rfl, q⟩
theorem op_notInA {X : Cx} (hu : X.A.units + 65 < cLine) : OpR X (compareOp .NotIn) (rInA X.K true) := by
  intro pins s σ H x y v u Q I rx ry h
  obtain ⟨d, ds, hd, he, sd, se, q⟩ := h
  obtain ⟨as, r1⟩ := Dp.reads I d x v hd rx
  rcases he with he | he
  · obtain ⟨bs, r2⟩ := Dp.reads I (.list ds) y u he ry
    exact SeqAt.notIn_list_reads r2 r1 se (SeqAt.canLay_of_shaped sd) (room_in_shaped sd hu) ⟨.bl _, H, I, rfl, q⟩
  · obtain ⟨bs, r2⟩ := Dp.reads I (.tuple ds) y u he ry
    exact SeqAt.notIn_tuple_reads r2 r1 se (SeqAt.canLay_of_shaped sd) (room_in_shaped sd hu) ⟨.bl _, H, I, rfl, q⟩
def seqOf (d : D) : Option (List D) := match d with
  | .nd .tup xs => some xs
  | .nd (.lst _) xs => some xs
  | _ => none
def sIn (neg : Bool) (x y : D) : Option D := match seqOf y with
  | some ys => if D.ok 64 x = true ∧ ys.all (D.ok 64) = true then some (.bl (if neg then !ys.any fun z => D.eqb z x else ys.any fun z => D.eqb z x)) else none
  | none => none
theorem r_in (neg : Bool) (v w : V) (H : Hp) (Q : VK) (h : rSem2 K (sIn neg) v w H Q) : rInA K neg v w H Q := by
  obtain ⟨x, y, z, g1, g2, w1, w2, hz, q⟩ := h
  unfold sIn at hz
  split at hz
  · rename_i ys hys
    split at hz
    · rename_i hc
      cases hz
      have hy : ∀ z ∈ ys, D.ok 64 z = true := List.all_eq_true.mp hc.2
      refine ⟨toPy x, toPyL ys, w1.dp _ 64 _ _ hc.1, ?_, shaped_toPy hc.1, (canLay_toPyL ys 64 hy).1, ?_⟩
      · have hD : D.ok 65 y = true := by
          unfold seqOf at hys
          split at hys <;> cases hys
          · show (true && ys.all (D.ok 64)) = true
            rw [hc.2]; rfl
          · show (true && ys.all (D.ok 64)) = true
            rw [hc.2]; rfl
        have dp := w2.dp _ 65 _ _ hD
        unfold seqOf at hys
        split at hys <;> cases hys
        · exact .inr dp
        · exact .inl dp
      · have e : ((toPyL ys).any fun z => PyData.eqv z (toPy x)) = ys.any fun z => D.eqb z x := by
          rw [toPyL_map, List.any_map]
          have hx1 := hc.1
          clear q hys w2 hc
          induction ys with
          | nil => rfl
          | cons z zs ih =>
            have h1 := eqv_eqb z x (.inr trivial) 64 (hy z List.mem_cons_self)
            simp only [List.any_cons, Function.comp]
            rw [h1 hx1, ih fun z hz => hy z (List.mem_cons_of_mem _ hz)]
        rw [e]
        exact q.here (.bl _)
    · cases hz
  · cases hz
/-- is None -/
def D.isN : D → Bool
  | .non => true
  | _ => false
def sIsN (neg : Bool) (x : D) : Option D := some (.bl (if neg = true then !x.isN else x.isN))
theorem Ow.isN {H : Hp} {v : V} {d : D} {g : List Addr} (w : Ow K H v d g) : decide (v = .non) = d.isN := by
  cases w with
  | fz w => cases w <;> rfl
  | nd h1 h2 h3 h4 => rfl
  | tup h1 h2 h3 h4 => rfl
end
section
variable {X : Cx} {Γ : Ct}
theorem x_isN {a : Expr} {f : FE} {j pos pos'} (ha : XE' X Γ a f) : XE' X Γ (.Compare a [.Is] [.Constant .none j pos'] pos) (fOp1 (sIsN false) f) :=
  PE.imp (pe_cmp (pc_isN ha) rfl) (op1_go (r := fun v H Q => Q (.bl (decide (v = .non))) H) fun v H Q ⟨x, z, g, w, hz, q⟩ => by
    cases hz
    rw [w.isN]
    exact PR.here q (.bl _))
theorem x_notN {a : Expr} {f : FE} {j pos pos'} (ha : XE' X Γ a f) : XE' X Γ (.Compare a [.IsNot] [.Constant .none j pos'] pos) (fOp1 (sIsN true) f) :=
  PE.imp (pe_cmp (pc_notN ha) rfl) (op1_go (r := fun v H Q => Q (.bl (!decide (v = .non))) H) fun v H Q ⟨x, z, g, w, hz, q⟩ => by
    cases hz
    rw [w.isN]
    exact PR.here q (.bl _))
theorem xt_isN {a : Expr} {f : FE} {j pos pos'} (ha : XE' X Γ a f) : XT' X Γ (.Compare a [.Is] [.Constant .none j pos'] pos) (fB (fOp1 (sIsN false) f)) :=
  PT.imp (pt_cmp (pc_isN ha) rfl) fun σ H Q h => op1_go (r := fun v H Q => Q (.bl (decide (v = .non))) H) (fun v H Q ⟨x, z, g, w, hz, q⟩ => by
    cases hz
    rw [w.isN]
    exact PR.here q (.bl _)) σ H _ (fB_go σ H Q h)
theorem xt_notN {a : Expr} {f : FE} {j pos pos'} (ha : XE' X Γ a f) : XT' X Γ (.Compare a [.IsNot] [.Constant .none j pos'] pos) (fB (fOp1 (sIsN true) f)) :=
  PT.imp (pt_cmp (pc_notN ha) rfl) fun σ H Q h => op1_go (r := fun v H Q => Q (.bl (!decide (v = .non))) H) (fun v H Q ⟨x, z, g, w, hz, q⟩ => by
    cases hz
    rw [w.isN]
    exact PR.here q (.bl _)) σ H _ (fB_go σ H Q h)
end
/-! ### one int -/
def s1I (f : Int → D) (x : D) : Option D := match x with
  | .int i => some (f i)
  | _ => none
def sNeg : D → Option D := s1I fun i => .int (-i)
theorem r_neg {K : PySem.W.Frag} (v : V) (H : Hp) (Q : VK) (h : rSem1 K sNeg v H Q) : rU (fun i => .int (-i)) v H Q := by
  obtain ⟨x, z, g, w, hz, q⟩ := h
  unfold sNeg s1I at hz
  split at hz
  · rename_i i
    cases hz
    exact ⟨i, w.int, q.here (.int _)⟩
  · cases hz
/-! ### places -/
def sIx (x y : D) : Option D := match seqOf x, y with
  | some xs, .int i => (match atI xs i with
    | some d => if d.isF = true then some d else none
    | none => none)
  | _, _ => none
def rIxA (K : PySem.W.Frag) : R2 := fun x y H Q => rIxL K x y H Q ∨ rIxT K x y H Q
theorem ix_A {X : Cx} : IxR X (rIxA X.K) := ix_list.or ix_tup
theorem atI_of {vs : List V} {xs : List D} {i : Int} {d : D} (l : vs.length = xs.length) (h : atI xs i = some d) : ∃ (v : V) (j : Nat), atI vs i = some v ∧ vs[j]? = some v ∧ xs[j]? = some d := by
  unfold atI at h ⊢
  rw [l]
  cases e : ixN xs.length i with
  | none => rw [e] at h; cases h
  | some j =>
    rw [e] at h
    have h : xs[j]? = some d := h
    have := (List.getElem?_eq_some_iff.mp h).1
    exact ⟨vs[j]'(by omega), j, List.getElem?_eq_getElem (by omega), List.getElem?_eq_getElem _, h⟩
theorem r_ix {K : PySem.W.Frag} (v w : V) (H : Hp) (Q : VK) (h : rSem2 K sIx v w H Q) : rIxA K v w H Q := by
  obtain ⟨x, y, z, g1, g2, w1, w2, hz, q⟩ := h
  unfold sIx at hz
  split at hz
  · rename_i xs i hxs
    split at hz
    · rename_i d hd
      split at hz
      · rename_i hf
        cases hz
        unfold seqOf at hxs
        split at hxs <;> cases hxs
        · obtain ⟨a, vs, rfl, h1, h2, h3⟩ := w1.tpl
          obtain ⟨u, j, e1, e2, e3⟩ := atI_of h2 hd
          obtain ⟨g, wg⟩ := h3 j u z e2 e3
          exact .inr ⟨a, vs, i, u, rfl, w2.int, h1, e1, q.here (wg.isF hf).1⟩
        · obtain ⟨a, vs, rfl, h1, h2, h3⟩ := w1.lst
          obtain ⟨u, j, e1, e2, e3⟩ := atI_of h2 hd
          obtain ⟨g, wg⟩ := h3 j u z e2 e3
          exact .inl ⟨a, vs, i, u, rfl, w2.int, h1, e1, q.here (wg.isF hf).1⟩
      · cases hz
    · cases hz
  · cases hz

/-! ### built-in functions -/
section
variable {K : PySem.W.Frag}
theorem Rds.one {H : Hp} {vs : List V} {d : D} (h : Rds K H vs [d]) : ∃ v g, vs = [v] ∧ Ow K H v d g := by
  match vs, h with
  | [v], ⟨⟨g, w⟩, _⟩ => exact ⟨v, g, rfl, w⟩
theorem Rds.two {H : Hp} {vs : List V} {d e : D} (h : Rds K H vs [d, e]) : ∃ v w g g', vs = [v, w] ∧ Ow K H v d g ∧ Ow K H w e g' := by
  match vs, h with
  | [v, v'], ⟨⟨g, w⟩, ⟨g', w'⟩, _⟩ => exact ⟨v, v', g, g', rfl, w, w'⟩
def sLen (ds : List D) : Option D := match ds with
  | [d] => (match seqOf d with
    | some xs => some (.int xs.length)
    | none => none)
  | _ => none
theorem r_len (vs : List V) (H : Hp) (Q : VK) (h : rSemL K sLen vs H Q) : (∃ p ys, vs = [.ref p] ∧ (SqL K H p ys ∨ SqT K H p ys) ∧ Q (.int ys.length) H) := by
  obtain ⟨ds, z, hr, hz, q⟩ := h
  unfold sLen at hz
  split at hz
  · rename_i d
    obtain ⟨v, g, rfl, w⟩ := hr.one
    split at hz
    · rename_i xs hxs
      cases hz
      unfold seqOf at hxs
      split at hxs <;> cases hxs
      · obtain ⟨a, us, rfl, h1, h2, h3⟩ := w.tpl
        exact ⟨a, us, rfl, .inr h1, by rw [h2]; exact q.here (.int _)⟩
      · obtain ⟨a, us, rfl, h1, h2, h3⟩ := w.lst
        exact ⟨a, us, rfl, .inl h1, by rw [h2]; exact q.here (.int _)⟩
    · cases hz
  · cases hz
def sAbs (ds : List D) : Option D := match ds with
  | [.int i] => some (.int (if i < 0 then -i else i))
  | _ => none
theorem r_abs (vs : List V) (H : Hp) (Q : VK) (h : rSemL K sAbs vs H Q) : ∃ i, vs = [.int i] ∧ Q (.int (if i < 0 then -i else i)) H := by
  obtain ⟨ds, z, hr, hz, q⟩ := h
  unfold sAbs at hz
  split at hz
  · rename_i i
    cases hz
    exact ⟨i, Rds.int1 hr, q.here (.int _)⟩
  · cases hz
def sInt (ds : List D) : Option D := match ds with
  | [.int i] => some (.int i)
  | [.bl b] => some (.int (if b then 1 else 0))
  | _ => none
theorem r_int (vs : List V) (H : Hp) (Q : VK) (h : rSemL K sInt vs H Q) : (∃ i, vs = [.int i] ∧ Q (.int i) H) ∨ ∃ k, vs = [.bl k] ∧ Q (.int (if k then 1 else 0)) H := by
  obtain ⟨ds, z, hr, hz, q⟩ := h
  unfold sInt at hz
  split at hz
  · rename_i i
    cases hz
    exact .inl ⟨i, Rds.int1 hr, q.here (.int _)⟩
  · rename_i b
    cases hz
    obtain ⟨v, g, rfl, w⟩ := hr.one
    exact .inr ⟨b, by rw [w.bl], q.here (.int _)⟩
  · cases hz
def sMax2 (ds : List D) : Option D := match ds with
  | [.int i, .int j] => some (.int (if j > i then j else i))
  | _ => none
def sMin2 (ds : List D) : Option D := match ds with
  | [.int i, .int j] => some (.int (if j < i then j else i))
  | _ => none
theorem r_max2 (vs : List V) (H : Hp) (Q : VK) (h : rSemL K sMax2 vs H Q) : ∃ i j, vs = [.int i, .int j] ∧ Q (.int (if j > i then j else i)) H := by
  obtain ⟨ds, z, hr, hz, q⟩ := h
  unfold sMax2 at hz
  split at hz
  · rename_i i j
    cases hz
    exact ⟨i, j, Rds.int2 hr, q.here (.int _)⟩
  · cases hz
theorem r_min2 (vs : List V) (H : Hp) (Q : VK) (h : rSemL K sMin2 vs H Q) : ∃ i j, vs = [.int i, .int j] ∧ Q (.int (if j < i then j else i)) H := by
  obtain ⟨ds, z, hr, hz, q⟩ := h
  unfold sMin2 at hz
  split at hz
  · rename_i i j
    cases hz
    exact ⟨i, j, Rds.int2 hr, q.here (.int _)⟩
  · cases hz
def sTuple (ds : List D) : Option D := match ds with
  | [d] => (match seqOf d with
    | some xs => if D.isFL xs = true then some (.nd .tup xs) else none
    | none => none)
  | _ => none
def sList (ds : List D) : Option D := match ds with
  | [d] => (match seqOf d with
    | some xs => if D.isFL xs = true then some (.nd (.lst true) xs) else none
    | none => none)
  | _ => none
theorem r_tuple (vs : List V) (H : Hp) (Q : VK) (h : rSemL K sTuple vs H Q) : ∃ p ys, vs = [.ref p] ∧ ((SqL K H p ys ∧ ∀ l, H l = none → Q (.ref l) (upd H l (.tup ys))) ∨ (SqT K H p ys ∧ Q (.ref p) H)) := by
  obtain ⟨ds, z, hr, hz, q⟩ := h
  unfold sTuple at hz
  split at hz
  · rename_i d
    obtain ⟨v, g, rfl, w⟩ := hr.one
    split at hz
    · rename_i xs hxs
      split at hz
      · rename_i hf
        cases hz
        unfold seqOf at hxs
        split at hxs <;> cases hxs
        · obtain ⟨a, us, rfl, h1, h2, h3⟩ := w.tpl
          exact ⟨a, us, rfl, .inr ⟨h1, q.here (.nd (k := .tup) h1 h2 (kids_fz h3 hf))⟩⟩
        · obtain ⟨a, us, rfl, h1, h2, h3⟩ := w.lst
          exact ⟨a, us, rfl, .inl ⟨h1, fun l nl => q.newT nl h2 (kids_fz h3 hf)⟩⟩
      · cases hz
    · cases hz
  · cases hz
theorem r_list (vs : List V) (H : Hp) (Q : VK) (h : rSemL K sList vs H Q) : ∃ p ys, vs = [.ref p] ∧ (SqL K H p ys ∨ SqT K H p ys) ∧ ∀ l, H l = none → Q (.ref l) (upd H l (.lst ys)) := by
  obtain ⟨ds, z, hr, hz, q⟩ := h
  unfold sList at hz
  split at hz
  · rename_i d
    obtain ⟨v, g, rfl, w⟩ := hr.one
    split at hz
    · rename_i xs hxs
      split at hz
      · rename_i hf
        cases hz
        unfold seqOf at hxs
        split at hxs <;> cases hxs
        · obtain ⟨a, us, rfl, h1, h2, h3⟩ := w.tpl
          exact ⟨a, us, rfl, .inr h1, fun l nl => q.newL nl h2 (kids_fz h3 hf)⟩
        · obtain ⟨a, us, rfl, h1, h2, h3⟩ := w.lst
          exact ⟨a, us, rfl, .inl h1, fun l nl => q.newL nl h2 (kids_fz h3 hf)⟩
      · cases hz
    · cases hz
  · cases hz
end
/-! ### isinstance -/
def tyD : D → String
  | .non => "NoneType"
  | .bl _ => "bool"
  | .int _ => "int"
  | .str _ => "str"
  | .nd .tup _ => "tuple"
  | .nd (.lst _) _ => "list"
  | .nd (.dic _ _) _ => "dict"
def sIsI (T : String) (x : D) : Option D := match x with
  | .nd (.dic _ _) _ => none
  | _ => (match kitB (tyD x) T with
    | some b => some (.bl b)
    | none => none)
theorem Ow.ty {K : PySem.W.Frag} {H : Hp} {v : V} {d : D} {g : List Addr} (w : Ow K H v d g) (h : ∀ o ks xs, d ≠ .nd (.dic o ks) xs) : TyX K H v (.type (tyD d)) := by
  cases d with
  | non => rw [w.non]; exact .base .non
  | bl b => rw [w.bl]; exact .base (.bl b)
  | int i => rw [w.int]; exact .base (.int i)
  | str x => rw [w.str]; exact .base (.str x)
  | nd k xs =>
    cases k with
    | tup =>
      obtain ⟨a, vs, rfl, h1, h2, h3⟩ := w.tpl
      rcases h1 with (h1 | ⟨o, h1⟩) | ⟨o, its, n, k1, k2, k3⟩
      · exact .base (.tup h1)
      · exact .fTuple h1
      · exact .kTuple k1 k2
    | lst o =>
      obtain ⟨a, vs, rfl, h1, h2, h3⟩ := w.lst
      rcases h1 with (h1 | ⟨o, h1⟩) | ⟨o, its, n, k1, k2, k3⟩
      · exact .base (.lst h1)
      · exact .base (.frz h1)
      · exact .kList k1 k2
    | dic o ks => exact absurd rfl (h o ks xs)
def fIsI (T : String) (f : FE) : FE := fOp1 (sIsI T) f
theorem x_isI {X : Cx} {Γ : Ct} {T : String} {e : Expr} {f : FE} {p p2 pos : Pos} (hK : Γ.K = X.K) (hg : Gl X "isinstance") (hm : X.mg "isinstance" = none) (hT : Gl X (Str.ofString T)) (hmT : X.mg (Str.ofString T) = none) (hvT : bootBuiltins (Str.ofString T) = some (.type T))
    (ha : XE' X Γ e f) (hn : (Str.ofString T) ≠ "__name__" := by decide) (hdT : ((Str.ofString T) == ("__debug__" : Str)) = false := by decide)
    (he : starEach [e, .Name (Str.ofString T) p2] X.env = (false, eval e X.env) :: starEach [.Name (Str.ofString T) p2] X.env := by rfl) (he2 : starEach [.Name (Str.ofString T) p2] X.env = (false, eval (.Name (Str.ofString T) p2) X.env) :: starEach [] X.env := by rfl) (hpl : (backTo pos (starEach [.Name (Str.ofString T) p2] X.env)).any (·.1) = false := by rfl) :
    XE' X Γ (.Call (.Name "isinstance" p) [e, .Name (Str.ofString T) p2] [] pos) (fIsI T f) := by
  refine PE.imp (pe_callB call_isi hg hm (by decide +kernel) (pa_cons ha (pa_cons (pe_bltn hT hmT hvT (v := .ty T) rfl hn hdT) pa_nil he2) he) (by decide) (by decide) he hpl) fun σ H Q ⟨ρ, A, F, e, h⟩ => ?_
  refine ⟨ρ, A, F, e, Go.bind h Stp.refl fun r ρ1 v H1 F1 g1 _ e1 st1 q1 h1 => ?_⟩
  unfold out1 at h1
  split at h1
  · rename_i x hx
    split at h1
    · rename_i z hz
      obtain ⟨g, w⟩ := q1.read e1 hx
      unfold sIsI at hz
      split at hz
      · cases hz
      · rename_i hnd
        split at hz
        · rename_i b hb
          cases hz
          exact ⟨v, .ty T, _, _, b, rfl, .ty T, by rw [← hK]; exact w.ty fun o ks xs z => hnd o ks xs z, kit_ty hb, (h1.new e1 st1).here (.bl b)⟩
        · cases hz
    · exact False.elim h1
  · exact False.elim h1
end EE

/-! layer E, part Z: list(zip(a, b)) -/
namespace EE
open PySem PySem.Spec
open PyProof.Rows hiding St
open L2

section
variable {prog : Program} {w : World} {A : Around} {E : Value → Shared → Prop} {s : Shared} {z TI TO i1 i2 T : Addr} {f : Bool} {oT : Obj} {fp1 fp2 : List Addr} {n1 n2 i : Nat} {P1 P2 : Nat → Value → Prop} {St1 St2 : Nat → Heap → Prop}
theorem zipd_item_held {Q : Value → Shared → Prop} (S : ZipSep2 z TI TO i1 i2 fp1 fp2) (D1 : Draws prog w A i1 fp1 n1 P1 St1) (D2 : Draws prog w A i2 fp2 n2 P2 St2)
    (hz : IsZipHeld s.heap z TI TO T f) (hT : s.heap.get? T = some oT) (hTI : IsTupOf2 s.heap TI (.ref i1) (.ref i2)) (st1 : St1 i s.heap) (st2 : St2 i s.heap) (hlt1 : i < n1) (hlt2 : i < n2)
    (hQ : ∀ x1 x2 h' tk, P1 i x1 → P2 i x2 → IsZipHeld h' z TI TO T true → St1 (i + 1) h' → St2 (i + 1) h' → IsTupOf2 h' s.heap.objs.size x1 x2 → h'.objs.size = s.heap.objs.size + 1 →
      (∀ c o, c ≠ z → c ≠ i1 → c ≠ i2 → s.heap.get? c = some o → h'.get? c = some o) → Q (.ref s.heap.objs.size) { s with heap := h', toks := tk }) :
    wpAny (model prog w) A (Builtin.«zip.__next__» ⟨[.ref z], []⟩) (fun fin s' => ∃ v, fin = .done (.ret v) ∧ Q v s') E s := by
  obtain ⟨hp, g, d, tk0, os⟩ := s
  show wpAny _ _ (field (.ref z) 2 >>= _) _ _ _
  refine wpAny_bind (wpAny_field hz rfl (x := .bool false) rfl ?_)
  show wpAny _ _ (field (.ref z) 3 >>= _) _ _ _
  refine wpAny_bind (wpAny_field hz rfl (x := .ref TI) rfl ?_)
  refine wpAny_bind (wpAny_seqItems hTI rfl ?_)
  show wpAny _ _ (Builtin.SmallTypes.ownedTupleIsFree (.ref z) >>= _) _ _ _
  refine wpAny_bind (wpAny_tupleHeld_zip hz hT fun g0 hz0 hs0 => ?_)
  replace hs0 : Heap.SameBut z hp g0 := hs0
  simp only [Bool.false_eq_true, if_false]
  refine wpAny_bind ?_
  rw [← Array.forIn_toList]
  simp only [List.forIn_cons, List.forIn_nil]
  refine wpAny_bind (wpAny_bind (wpAny_holding ?_))
  show wpAny _ _ (Builtin.SmallTypes.nextOf (.ref i1) >>= _) _ _ ⟨g0, g, d, tk0, os⟩
  refine wpAny_bind (D1.item i _ _ _ hlt1 (D1.over st1 hs0 S.zf1) fun x1 p1 tk1 hx1 sn1 hp1 => wpAny_pure ?_)
  replace hp1 : Heap.SameBut i1 g0 p1 := hp1
  refine wpAny_pure ?_
  refine wpAny_bind (wpAny_bind (wpAny_holding ?_))
  show wpAny _ _ (Builtin.SmallTypes.nextOf (.ref i2) >>= _) _ _ ⟨p1, g, d, tk1, os⟩
  refine wpAny_bind (D2.item i _ _ _ hlt2 (D2.over (D2.over st2 hs0 S.zf2) hp1 S.sep1_2) fun x2 p2 tk2 hx2 sn2 hp2 => wpAny_pure ?_)
  replace hp2 : Heap.SameBut i2 p1 p2 := hp2
  refine wpAny_pure (wpAny_pure ?_)
  show wpAny _ _ (newTuple [x1, x2] >>= _) _ _ _
  refine wpAny_bind (wpAny_newTuple ?_)
  have hsz : p2.objs.size = hp.objs.size := by rw [hp2.1, hp1.1, hs0.1]
  have hz3 : IsZipHeld p2 z TI TO T true := hp2.extBut _ _ S.zi2 (hp1.extBut _ _ S.zi1 hz0)
  have hk : ∀ c o, c ≠ z → c ≠ i1 → c ≠ i2 → hp.get? c = some o → p2.get? c = some o := fun c o c1 c2 c3 e => hp2.extBut _ _ c3 (hp1.extBut _ _ c2 (hs0.extBut _ _ c1 e))
  refine wpAny_pure ⟨_, rfl, ?_⟩
  show Q (.ref p2.objs.size) _
  have hp' : IsTupOf2 (p2.push { cls := .type "tuple", data := .seq #[x1, x2] }) p2.objs.size x1 x2 := Heap.get?_push_size _ rfl
  have hz4 : (p2.push { cls := .type "tuple", data := .seq #[x1, x2] }).objs.size = p2.objs.size + 1 := Heap.size_push ..
  have t1 : St1 (i + 1) (p2.push { cls := .type "tuple", data := .seq #[x1, x2] }) := D1.frame _ _ _ (D1.over sn1 hp2 S.sep2_1) fun b _ o e => Heap.get?_push_of_some _ e
  have t2 : St2 (i + 1) (p2.push { cls := .type "tuple", data := .seq #[x1, x2] }) := D2.frame _ _ _ sn2 fun b _ o e => Heap.get?_push_of_some _ e
  rw [hsz] at hp' hz4 ⊢
  exact hQ _ _ _ _ hx1 hx2 (Heap.get?_push_of_some _ hz3) t1 t2 hp' hz4 fun c o c1 c2 c3 e => Heap.get?_push_of_some _ (hk c o c1 c2 c3 e)
theorem zipd_end_held {Q : Fin → Shared → Prop} (S : ZipSep2 z TI TO i1 i2 fp1 fp2) (D1 : Draws prog w A i1 fp1 n1 P1 St1) (D2 : Draws prog w A i2 fp2 n2 P2 St2)
    (hz : IsZipHeld s.heap z TI TO T f) (hT : s.heap.get? T = some oT) (hTI : IsTupOf2 s.heap TI (.ref i1) (.ref i2)) (st1 : St1 i s.heap) (st2 : St2 i s.heap) (hle1 : i ≤ n1) (hle2 : i ≤ n2) (hend : i = n1 ∨ i = n2)
    (hE : ∀ h' tk e, (∀ c o, c ≠ z → c ≠ i1 → c ≠ i2 → s.heap.get? c = some o → h'.get? c = some o) → (∃ o, h'.get? e = some o ∧ o.cls = .type "StopIteration") → E (.ref e) { s with heap := h', toks := tk }) :
    wpAny (model prog w) A (Builtin.«zip.__next__» ⟨[.ref z], []⟩) Q E s := by
  obtain ⟨hp, g, d, tk0, os⟩ := s
  show wpAny _ _ (field (.ref z) 2 >>= _) _ _ _
  refine wpAny_bind (wpAny_field hz rfl (x := .bool false) rfl ?_)
  show wpAny _ _ (field (.ref z) 3 >>= _) _ _ _
  refine wpAny_bind (wpAny_field hz rfl (x := .ref TI) rfl ?_)
  refine wpAny_bind (wpAny_seqItems hTI rfl ?_)
  show wpAny _ _ (Builtin.SmallTypes.ownedTupleIsFree (.ref z) >>= _) _ _ _
  refine wpAny_bind (wpAny_tupleHeld_zip hz hT fun g0 hz0 hs0 => ?_)
  replace hs0 : Heap.SameBut z hp g0 := hs0
  simp only [Bool.false_eq_true, if_false]
  refine wpAny_bind ?_
  rw [← Array.forIn_toList]
  simp only [List.forIn_cons, List.forIn_nil]
  refine wpAny_bind (wpAny_bind (wpAny_holding ?_))
  show wpAny _ _ (Builtin.SmallTypes.nextOf (.ref i1) >>= _) _ _ ⟨g0, g, d, tk0, os⟩
  by_cases hlt1 : i < n1
  · refine wpAny_bind (D1.item i _ _ _ hlt1 (D1.over st1 hs0 S.zf1) fun x1 p1 tk1 hx1 sn1 hp1 => wpAny_pure ?_)
    replace hp1 : Heap.SameBut i1 g0 p1 := hp1
    refine wpAny_pure ?_
    have hi2 : i = n2 := by omega
    refine wpAny_bind (wpAny_bind (wpAny_holding ?_))
    show wpAny _ _ (Builtin.SmallTypes.nextOf (.ref i2) >>= _) _ _ ⟨p1, g, d, tk1, os⟩
    refine wpAny_bind (D2.done ⟨p1, g, d, tk1, os⟩ _ _ (by rw [← hi2]; exact D2.over (D2.over st2 hs0 S.zf2) hp1 S.sep1_2) fun q e hq he => ?_)
    replace hq : Heap.ExtBut i2 p1 q := hq
    exact hE q tk1 e (fun c o cz c1 c2 x => hq _ _ c2 (hp1.extBut _ _ c1 (hs0.extBut _ _ cz x))) he
  · have hi1 : i = n1 := by omega
    refine wpAny_bind (D1.done ⟨g0, g, d, tk0, os⟩ _ _ (by rw [← hi1]; exact D1.over st1 hs0 S.zf1) fun q e hq he => ?_)
    replace hq : Heap.ExtBut i1 g0 q := hq
    exact hE q tk0 e (fun c o cz c1 c2 x => hq _ _ c1 (hs0.extBut _ _ cz x)) he
theorem pyNext_zipd_item_held {Q : Option Value → Shared → Prop} (S : ZipSep2 z TI TO i1 i2 fp1 fp2) (D1 : Draws prog w A.in1 i1 fp1 n1 P1 St1) (D2 : Draws prog w A.in1 i2 fp2 n2 P2 St2)
    (hz : IsZipHeld s.heap z TI TO T f) (hT : s.heap.get? T = some oT) (hTI : IsTupOf2 s.heap TI (.ref i1) (.ref i2)) (st1 : St1 i s.heap) (st2 : St2 i s.heap) (hlt1 : i < n1) (hlt2 : i < n2)
    (hQ : ∀ x1 x2 h' tk, P1 i x1 → P2 i x2 → IsZipHeld h' z TI TO T true → St1 (i + 1) h' → St2 (i + 1) h' → IsTupOf2 h' s.heap.objs.size x1 x2 → h'.objs.size = s.heap.objs.size + 1 →
      (∀ c o, c ≠ z → c ≠ i1 → c ≠ i2 → s.heap.get? c = some o → h'.get? c = some o) → Q (some (.ref s.heap.objs.size)) { s with heap := h', toks := tk }) : wpAny (model prog w) A (pyNext (.ref z)) Q E s := by
  have hTy : s.TypeIs (.ref z) "zip" := ⟨_, hz, rfl⟩
  unfold pyNext
  exact wpAny_bind (wpAny_attempt (wpAny_callSpecial?_slot (name := Str.ofString "__next__") hTy F.slot_zip_next
    (wpAny_call_entry F.slot_zip_next hTy F.entry_zip_next
      (zipd_item_held S D1 D2 hz hT hTI st1 st2 hlt1 hlt2 fun x1 x2 h' tk a0 a1 a2 a3 a4 a5 a6 a7 => wpAny_pure (hQ x1 x2 h' tk a0 a1 a2 a3 a4 a5 a6 a7)) (F.args_zip_next_1 _))))
theorem pyNext_zipd_end_held {Q : Option Value → Shared → Prop} (S : ZipSep2 z TI TO i1 i2 fp1 fp2) (D1 : Draws prog w A.in1 i1 fp1 n1 P1 St1) (D2 : Draws prog w A.in1 i2 fp2 n2 P2 St2)
    (hz : IsZipHeld s.heap z TI TO T f) (hT : s.heap.get? T = some oT) (hTI : IsTupOf2 s.heap TI (.ref i1) (.ref i2)) (st1 : St1 i s.heap) (st2 : St2 i s.heap) (hle1 : i ≤ n1) (hle2 : i ≤ n2) (hend : i = n1 ∨ i = n2)
    (hQ : ∀ h' tk, (∀ c o, c ≠ z → c ≠ i1 → c ≠ i2 → s.heap.get? c = some o → h'.get? c = some o) → Q none { s with heap := h', toks := tk }) : wpAny (model prog w) A (pyNext (.ref z)) Q E s := by
  have hTy : s.TypeIs (.ref z) "zip" := ⟨_, hz, rfl⟩
  unfold pyNext
  refine wpAny_bind (wpAny_attempt (wpAny_callSpecial?_slot (name := Str.ofString "__next__") hTy F.slot_zip_next
    (wpAny_call_entry F.slot_zip_next hTy F.entry_zip_next (zipd_end_held S D1 D2 hz hT hTI st1 st2 hle1 hle2 hend fun h' tk e hk he => ?_) (F.args_zip_next_1 _))))
  obtain ⟨o, ho, hc⟩ := he
  refine wpAny_bind (wpAny_isInstance (T := "StopIteration") (b := true) ⟨o, ho, hc⟩ isSubtype_stop ?_)
  exact wpAny_pure (hQ _ _ hk)
end

/-- the zip's cells at turn i, while a list S takes its tuples -/
def ZSt (z TI TO i1 i2 S : Addr) (St1 St2 : Nat → Heap → Prop) (i : Nat) (h : Heap) : Prop :=
  IsTupOf2 h TI (.ref i1) (.ref i2) ∧ St1 i h ∧ St2 i h ∧ ((IsZip h z TI TO .none ∧ ∃ a b, IsTupOf2 h TO a b) ∨ ∃ T f oT, IsZipHeld h z TI TO T f ∧ h.get? T = some oT ∧ T ≠ z ∧ T ≠ i1 ∧ T ≠ i2 ∧ T ≠ S)
section
variable {prog : Program} {w : World} {A : Around} {E : Value → Shared → Prop} {s : Shared} {z TI TO i1 i2 S : Addr} {fp1 fp2 : List Addr} {n1 n2 i : Nat} {P1 P2 : Nat → Value → Prop} {St1 St2 : Nat → Heap → Prop}
theorem ZSt.frame {h h' : Heap} (D1 : Draws prog w A i1 fp1 n1 P1 St1) (D2 : Draws prog w A i2 fp2 n2 P2 St2) (st : ZSt z TI TO i1 i2 S St1 St2 i h) (k : ∀ c o, c ≠ S → h.get? c = some o → h'.get? c = some o)
    (n1' : z ≠ S) (n2' : TI ≠ S) (n3 : TO ≠ S) (n4 : S ∉ fp1) (n5 : S ∉ fp2) : ZSt z TI TO i1 i2 S St1 St2 i h' := by
  obtain ⟨a, b, c, d⟩ := st
  refine ⟨k _ _ n2' a, D1.frame _ _ _ b fun x hx o e => k x o (fun q => n4 (q ▸ hx)) e, D2.frame _ _ _ c fun x hx o e => k x o (fun q => n5 (q ▸ hx)) e, ?_⟩
  rcases d with ⟨d, x, y, e⟩ | ⟨T, f, oT, d, e, r1, r2, r3, r4⟩
  · exact .inl ⟨k _ _ n1' d, x, y, k _ _ n3 e⟩
  · exact .inr ⟨T, f, oT, k _ _ n1' d, k _ _ r4 e, r1, r2, r3, r4⟩
theorem ZSt.item {Q : Option Value → Shared → Prop} (Sp : ZipSep2 z TI TO i1 i2 fp1 fp2) (D1 : Draws prog w A.in1 i1 fp1 n1 P1 St1) (D2 : Draws prog w A.in1 i2 fp2 n2 P2 St2) (st : ZSt z TI TO i1 i2 S St1 St2 i s.heap) (hlt1 : i < n1) (hlt2 : i < n2)
    (hz : z < s.heap.objs.size) (h1 : i1 < s.heap.objs.size) (h2 : i2 < s.heap.objs.size) (hS : S < s.heap.objs.size)
    (hQ : ∀ x1 x2 h' tk, P1 i x1 → P2 i x2 → ZSt z TI TO i1 i2 S St1 St2 (i + 1) h' → IsTupOf2 h' s.heap.objs.size x1 x2 → (∀ c o, c ∉ [z, TO, i1, i2] → s.heap.get? c = some o → h'.get? c = some o) → Q (some (.ref s.heap.objs.size)) { s with heap := h', toks := tk }) :
    wpAny (model prog w) A (pyNext (.ref z)) Q E s := by
  obtain ⟨hTI, st1, st2, d⟩ := st
  rcases d with ⟨hz', a, b, hTO⟩ | ⟨T, f, oT, hz', hT, r1, r2, r3, r4⟩
  · refine wpAny_pyNext_zipD2_item Sp D1 D2 hz' hTI hTO st1 st2 hlt1 hlt2 fun x1 x2 h' tk y1 y2 b1 b2 d1 d2 b5 b6 hk => ?_
    refine hQ x1 x2 h' tk y1 y2 ⟨hk _ _ Sp.TIz Sp.TITO Sp.TIi1 Sp.TIi2 hTI, d1, d2, .inr ⟨_, false, _, b1, b5, Nat.ne_of_gt hz, Nat.ne_of_gt h1, Nat.ne_of_gt h2, Nat.ne_of_gt hS⟩⟩ b5 fun c o hc e => hk c o (fun x => hc (by simp [x])) (fun x => hc (by simp [x])) (fun x => hc (by simp [x])) (fun x => hc (by simp [x])) e
  · refine pyNext_zipd_item_held Sp D1 D2 hz' hT hTI st1 st2 hlt1 hlt2 fun x1 x2 h' tk y1 y2 a1 a2 a3 a4 a5 hk => ?_
    refine hQ x1 x2 h' tk y1 y2 ⟨hk _ _ Sp.TIz Sp.TIi1 Sp.TIi2 hTI, a2, a3, .inr ⟨T, true, oT, a1, hk _ _ r1 r2 r3 hT, r1, r2, r3, r4⟩⟩ a4 fun c o hc e => hk c o (fun x => hc (by simp [x])) (fun x => hc (by simp [x])) (fun x => hc (by simp [x])) e
theorem ZSt.done {Q : Option Value → Shared → Prop} (Sp : ZipSep2 z TI TO i1 i2 fp1 fp2) (D1 : Draws prog w A.in1 i1 fp1 n1 P1 St1) (D2 : Draws prog w A.in1 i2 fp2 n2 P2 St2) (st : ZSt z TI TO i1 i2 S St1 St2 i s.heap) (hle1 : i ≤ n1) (hle2 : i ≤ n2) (hend : i = n1 ∨ i = n2)
    (hQ : ∀ h' tk, (∀ c o, c ∉ [z, TO, i1, i2] → s.heap.get? c = some o → h'.get? c = some o) → Q none { s with heap := h', toks := tk }) :
    wpAny (model prog w) A (pyNext (.ref z)) Q E s := by
  obtain ⟨hTI, st1, st2, d⟩ := st
  rcases d with ⟨hz', a, b, hTO⟩ | ⟨T, f, oT, hz', hT, r1, r2, r3, r4⟩
  · refine wpAny_pyNext_zipD2_end Sp D1 D2 hz' hTI hTO st1 st2 hle1 hle2 hend fun h' tk hk => hQ h' tk fun c o hc e => hk c o (fun x => hc (by simp [x])) (fun x => hc (by simp [x])) (fun x => hc (by simp [x])) (fun x => hc (by simp [x])) e
  · refine pyNext_zipd_end_held Sp D1 D2 hz' hT hTI st1 st2 hle1 hle2 hend fun h' tk hk => hQ h' tk fun c o hc e => hk c o (fun x => hc (by simp [x])) (fun x => hc (by simp [x])) (fun x => hc (by simp [x])) e
end

theorem fpOk_upd {X : Cx} {pins : List (Addr × Obj)} {H : Hp} {c T : Addr} {o : HO} (h : FpOk X pins H c) (n : c ≠ T) : FpOk X pins (upd H T o) c := ⟨by rw [upd_ne n]; exact h.1, h.2⟩

section
variable {X : Cx} {pins : List (Addr × Obj)} {σ : L2.St} {A : Around} {R : Result → Shared → Prop} {z TI TO i1 i2 S a b : Addr} {n1 n2 : Nat} {P1 P2 : Nat → Value → Prop} {St1 St2 : Nat → Heap → Prop} {xs ys : List V}
theorem zip_loop (Sp : ZipSep2 z TI TO i1 i2 [i1, a] [i2, b]) (D1 : Draws X.prog X.w A.in1.in1 i1 [i1, a] n1 P1 St1) (D2 : Draws X.prog X.w A.in1.in1 i2 [i2, b] n2 P2 St2)
    (hP1 : ∀ i v, P1 i v → ∃ x, xs[i]? = some x ∧ RelV x v) (hP2 : ∀ i v, P2 i v → ∃ x, ys[i]? = some x ∧ RelV x v) (hSz : S ∉ [z, TI, TO, i1, i2, a, b]) (res : Value) (hn : min n1 n2 ≤ sizeLine) (H0 : Hp) (h0S : H0 S = none) :
    ∀ (k i : Nat) (Hc : Hp) (s : Shared) (Ts : List Addr), min n1 n2 - i = k → i ≤ min n1 n2 → Inv X pins σ Hc s → Hc S = some (.lst (Ts.map V.ref)) → Ts.length = i → ZSt z TI TO i1 i2 S St1 St2 i s.heap → (∀ c ∈ [z, TI, TO, i1, i2], FpOk X pins Hc c ∧ c < s.heap.objs.size) → (∀ b o, H0 b = some o → Hc b = some o) →
      (∀ (j : Nat) T, Ts[j]? = some T → ∃ x y, xs[j]? = some x ∧ ys[j]? = some y ∧ Hc T = some (.tup [x, y])) →
      (∀ (Hc : Hp) (s : Shared) (Ts : List Addr), Inv X pins σ Hc s → Hc S = some (.lst (Ts.map V.ref)) → Ts.length = min n1 n2 → (∀ b o, H0 b = some o → Hc b = some o) → (∀ (j : Nat) T, Ts[j]? = some T → ∃ x y, xs[j]? = some x ∧ ys[j]? = some y ∧ Hc T = some (.tup [x, y])) → R (.ok (.ret res)) s) →
      codeAny (model X.prog X.w) A (.builtin "list.extend.loop" ⟨[.ref S, .ref z, res], []⟩) R s := by
  simp only [List.mem_cons, List.not_mem_nil, or_false, not_or] at hSz
  obtain ⟨q1, q2, q3, q4, q5, q6, q7⟩ := hSz
  intro k
  induction k with
  | zero =>
    intro i Hc s Ts hk hi I hS hl st fp k0 pr hR
    refine codeAny_builtin F.entry_extend_loop ?_
    rw [Around.under_plainId F.plain_extend_loop _]
    show wpAny _ A.in1 (pyNext (.ref z) >>= _) _ _ s
    refine wpAny_bind (ZSt.done Sp D1 D2 st (by omega) (by omega) (by omega) fun h' tk hk' => ?_)
    have I1 : Inv X pins σ Hc { s with heap := h', toks := tk } := I.turnedL (ch := [z, TO, i1, i2]) hk' fun c hc => (fp c (by simp at hc ⊢; rcases hc with h | h | h | h <;> simp [h])).1
    exact wpAny_pure (hR Hc _ Ts I1 hS (by omega) k0 pr)
  | succ k ih =>
    intro i Hc s Ts hk hi I hS hl st fp k0 pr hR
    refine codeAny_builtin F.entry_extend_loop ?_
    rw [Around.under_plainId F.plain_extend_loop _]
    show wpAny _ A.in1 (pyNext (.ref z) >>= _) _ _ s
    obtain ⟨_, its0, c0, r0, l0, e0⟩ := I.lstM hS
    have hSlt : S < s.heap.objs.size := Heap.lt_size e0
    refine wpAny_bind (ZSt.item Sp D1 D2 st (by omega) (by omega) (fp z (by simp)).2 (fp i1 (by simp)).2 (fp i2 (by simp)).2 hSlt fun x1 x2 h' tk p1 p2 st' hT hk' => ?_)
    obtain ⟨x, hx, rx⟩ := hP1 _ _ p1
    obtain ⟨y, hy, ry⟩ := hP2 _ _ p2
    have fr : Hc s.heap.objs.size = none := I.hok.fresh (Nat.le_refl _)
    have new : ObjOk X.prog X.w (upd Hc s.heap.objs.size (.tup [x, y])) h' s.heap.objs.size (.tup [x, y]) :=
      ⟨by show 2 ≤ sizeLine; decide, [x1, x2], .cons rx (.cons ry .nil), ⟨_, hT, rfl, _, rfl⟩⟩
    have I1 : Inv X pins σ (upd Hc s.heap.objs.size (.tup [x, y])) { s with heap := h', toks := tk } :=
      I.turnedNew (ch := [z, TO, i1, i2]) hk' (fun c hc => (fp c (by simp at hc ⊢; rcases hc with h | h | h | h <;> simp [h])).1) (Nat.le_refl _) new
    have hS1 : (upd Hc s.heap.objs.size (.tup [x, y])) S = some (.lst (Ts.map V.ref)) := by rw [upd_ne (Nat.ne_of_lt hSlt)]; exact hS
    obtain ⟨_, its1, c1, r1, l1, e1⟩ := I1.lstM hS1
    have hSl : S < h'.objs.size := Heap.lt_size e1
    rw [List.length_map] at l1
    show wpAny _ A.in1 (updateSeq S (·.push (.ref s.heap.objs.size)) >>= _) _ _ _
    refine wpAny_bind ?_
    have I2 : Inv X pins σ (upd (upd Hc s.heap.objs.size (.tup [x, y])) S (.lst ((Ts ++ [s.heap.objs.size]).map V.ref))) { ({ s with heap := h', toks := tk } : Shared) with heap := h'.update S (Obj.mapSeq (·.push (.ref s.heap.objs.size))), toks := tk } := by
      rw [List.map_append]
      refine I1.lset (its' := its1 ++ [.ref s.heap.objs.size]) hS1 e1 (by simp) (r1.append (.cons (show RelV (.ref s.heap.objs.size) (.ref s.heap.objs.size) from rfl) .nil)) ?_
      simp only [List.length_append, List.length_map, List.length_cons, List.length_nil]
      omega
    refine wpAny_updateSeq e1 rfl (wpAny_pure ⟨plainId_quiet F.plain_extend_loop _, ?_⟩)
      (by simp; omega) (by simp; omega)
    have hTl : ∀ c ∈ [z, TI, TO, i1, i2], c < s.heap.objs.size := fun c hc => (fp c hc).2
    have hT2 : s.heap.objs.size < h'.objs.size := Heap.lt_size hT
    have D1' := D1
    refine ih (i + 1) _ _ (Ts ++ [s.heap.objs.size]) (by omega) (by omega) I2 upd_same (by simp [hl]) ?_ (fun c hc => ⟨?_, ?_⟩) (fun c o e => ?_) (fun j T hj => ?_) hR
    · refine ZSt.frame D1 D2 st' (fun c o hc e => (Heap.get?_update_other _ _ (Ne.symm hc)).trans e) (Ne.symm q1) (Ne.symm q2) (Ne.symm q3) ?_ ?_
      · simp only [List.mem_cons, List.not_mem_nil, or_false, not_or]; exact ⟨q4, q6⟩
      · simp only [List.mem_cons, List.not_mem_nil, or_false, not_or]; exact ⟨q5, q7⟩
    · have hcS : c ≠ S := by
        simp only [List.mem_cons, List.not_mem_nil, or_false] at hc
        rcases hc with h | h | h | h | h <;> rw [h] <;> first | exact Ne.symm q1 | exact Ne.symm q2 | exact Ne.symm q3 | exact Ne.symm q4 | exact Ne.symm q5
      exact fpOk_upd (fpOk_upd (fp c hc).1 (Nat.ne_of_lt (hTl c hc))) hcS
    · have := hTl c hc
      have e : (h'.update S (Obj.mapSeq (·.push (.ref s.heap.objs.size)))).objs.size = h'.objs.size := Heap.size_update ..
      show c < (h'.update S (Obj.mapSeq (·.push (.ref s.heap.objs.size)))).objs.size
      rw [e]; exact Nat.lt_trans this hT2
    · rw [upd_ne (fun q => by rw [q, h0S] at e; cases e), upd_ne (fun q => by rw [q] at e; have := k0 _ _ e; rw [fr] at this; cases this)]
      exact k0 c o e
    · by_cases hj' : j < Ts.length
      · rw [List.getElem?_append_left hj'] at hj
        obtain ⟨x', y', e1, e2, e3⟩ := pr j T hj
        refine ⟨x', y', e1, e2, ?_⟩
        rw [upd_ne (fun q => by rw [q, hS] at e3; cases e3), upd_ne (fun q => by rw [q, fr] at e3; cases e3)]
        exact e3
      · rw [List.getElem?_append_right (by omega)] at hj
        have hjj : j - Ts.length = 0 := by
          have := (List.getElem?_eq_some_iff.mp hj).1
          simp at this; omega
        rw [hjj] at hj
        simp at hj
        subst hj
        have : j = i := by omega
        subst this
        refine ⟨x, y, hx, hy, ?_⟩
        rw [upd_ne (Nat.ne_of_gt hSlt), upd_same]
end

theorem zip_no_len : typeLookup (.type "zip") "__len__" = pure none := am_miss_of_fast (by decide +kernel)
theorem zip_no_hint : typeLookup (.type "zip") "__length_hint__" = pure none := am_miss_of_fast (by decide +kernel)
/-- what list(zip(a, b)) makes -/
def rLZ (K : PySem.W.Frag) (vs : List V) (H : Hp) (Q : VK) : Prop := ∃ a b xs ys, vs = [.ref a, .ref b] ∧ (SqL K H a xs ∨ SqT K H a xs) ∧ (SqL K H b ys ∨ SqT K H b ys) ∧ ∀ (p : Addr) (H' : Hp) (Ts : List Addr), (∀ c o, H c = some o → H' c = some o) → H p = none → H' p = some (.lst (Ts.map V.ref)) → Ts.length = min xs.length ys.length →
  (∀ (j : Nat) T, Ts[j]? = some T → ∃ x y, xs[j]? = some x ∧ ys[j]? = some y ∧ H' T = some (.tup [x, y])) → Q (.ref p) H'

theorem vals_getR : ∀ {xs : List V} {us : List Value} {i : Nat} {u : Value}, Vals xs us → us[i]? = some u → ∃ x, xs[i]? = some x ∧ RelV x u := fun {xs us i u} r e => by
  have l := r.length
  have := (List.getElem?_eq_some_iff.mp e).1
  obtain ⟨u', e', q⟩ := r.get (List.getElem?_eq_getElem (l := xs) (i := i) (by omega))
  rw [e] at e'; cases e'
  exact ⟨_, List.getElem?_eq_getElem (by omega), q⟩
/-- a list or a tuple to be drawn from -/
structure Src (prog : Program) (w : World) (a : Addr) (vs : List V) (h : Heap) (o : Obj) (Hq : Heap → Prop) (n : Nat) (P : Nat → Value → Prop) (St : Addr → Nat → Heap → Prop) : Prop where
  beg : Begins (.ref a) o Hq
  now : Hq h
  lt : a < h.objs.size
  len : n = vs.length
  at_ : ∀ i v, P i v → ∃ x, vs[i]? = some x ∧ RelV x v
  draws : ∀ it, it ≠ a → ∀ A : Around, A.handled = none → Draws prog w A it [it, a] n P (St it)
  start : ∀ it h', Hq h' → h'.get? it = some o → St it 0 h'
theorem src_of {X : Cx} {pins : List (Addr × Obj)} {σ : L2.St} {H : Hp} {s : Shared} {a : Addr} {vs : List V} (I : Inv X pins σ H s) (h : SqL X.K H a vs ∨ SqT X.K H a vs) : ∃ o Hq n P St, Src X.prog X.w a vs s.heap o Hq n P St := by
  rcases h with h | h
  · obtain ⟨its, rv, p, _⟩ := I.list h
    refine ⟨_, _, its.toArray.size, _, fun it i h => h.IsListIter it a i ∧ h.IsList a its.toArray, begins_list a its.toArray, p.isList, p.lt, by simpa using rv.length.symm, fun i v hv => ?_, fun it hne A hh => Draws.list hh it a hne.symm its.toArray, fun it h' hq e => ⟨⟨_, e, rfl, rfl⟩, hq⟩⟩
    exact vals_getR rv (by simpa using hv)
  · obtain ⟨its, rv, p, _⟩ := I.tuple h
    obtain ⟨o1, ho1, _⟩ := id p
    refine ⟨_, _, its.toArray.size, _, fun it i h => h.IsTupleIter it a i ∧ h.IsTuple a its.toArray, begins_tuple a its.toArray, p, Heap.lt_size ho1, by simpa using rv.length.symm, fun i v hv => ?_, fun it hne A hh => Draws.tuple hh it a hne.symm its.toArray, fun it h' hq e => ⟨⟨_, e, rfl, rfl⟩, hq⟩⟩
    exact vals_getR rv (by simpa using hv)

theorem ns7 (m n a b : Nat) (h : m = n + 5) (ha : a < n) (hb : b < n) : ¬ m = n + 4 ∧ ¬ m = n + 2 ∧ ¬ m = n + 3 ∧ ¬ m = n ∧ ¬ m = n + 1 ∧ ¬ m = a ∧ ¬ m = b := by omega
theorem in5 (m n c : Nat) (h : m = n + 5) (h2 : c = n + 4 ∨ c = n + 2 ∨ c = n + 3 ∨ c = n ∨ c = n + 1) : n ≤ c ∧ c < m := by omega
theorem zsep (n a b : Nat) (ha : a < n) (hb : b < n) : ZipSep2 (n + 4) (n + 2) (n + 3) n (n + 1) [n, a] [n + 1, b] := by
  refine ⟨?_, ?_, ?_, ?_, by simp, ?_, ?_, ?_, by simp, ?_, ?_, ?_, ?_⟩
  all_goals first
    | exact (fun h => by have h : (n + 2 : Nat) = n + 4 := h; omega)
    | exact (fun h => by have h : (n + 3 : Nat) = n + 4 := h; omega)
    | exact (fun h => by have h : (n + 2 : Nat) = n + 3 := h; omega)
    | exact (fun h => by have h : (n + 2 : Nat) = n := h; omega)
    | exact (fun h => by have h : (n + 2 : Nat) = n + 1 := h; omega)
    | (intro h; simp only [List.mem_cons, List.not_mem_nil, or_false] at h
       have h : ∀ x y z : Nat, x = y ∨ x = z → x = y ∨ x = z := fun _ _ _ h => h
       rename_i h0 
       have := h _ _ _ h0
       omega)
section
variable {X : Cx} {e e2 : Expr} {ta : TA} {p p2 pos pos2 : Pos}
def tLZ (K : PySem.W.Frag) (ta : TA) : TE := fun σ H Q => ta σ H fun vs H1 => rLZ K vs H1 Q
theorem pe_lz (hgl : Gl X "list") (hml : X.mg "list" = none) (hg : Gl X "zip") (hm : X.mg "zip" = none) (hc : X.calm = true) (ha : PA X [e, e2] ta)
    (hs : starEach [e, e2] X.env = (false, eval e X.env) :: starEach [e2] X.env := by rfl) (hpl : (backTo pos2 (starEach [e2] X.env)).any (·.1) = false := by rfl)
    (hs' : starEach [.Call (.Name "zip" p2) [e, e2] [] pos2] X.env = (false, eval (.Call (.Name "zip" p2) [e, e2] [] pos2) X.env) :: starEach [] X.env := by rfl) :
    PE X (.Call (.Name "list" p) [.Call (.Name "zip" p2) [e, e2] [] pos2] [] pos) (tLZ X.K ta) := by
  refine ⟨fun pins s σ H Q I h => ?_⟩
  refine wpAny_Call_Name_kw (ld_blt I hgl hml Pv.boot_list ?_)
  refine PyProof.Rows.callWith_type1 (T := "list") ?_ hs' rfl
  rw [hs']
  show wpAny _ _ (spliced ((false, eval (.Call (.Name "zip" p2) [e, e2] [] pos2) X.env) :: backTo pos (starEach [] X.env))) _ _ s
  refine Calls.spliced_cons ?_
  refine wpAny_Call_Name_kw (ld_blt I hg hm PyProof.Rows.boot_zip ?_)
  refine PyProof.Rows.callWith_type1 (thn (ha.run pos2 pins s σ H _ I h) fun us s1 ⟨vs, H1, I1, r1, q1⟩ => ?_) hs hpl
  obtain ⟨a, b, xs, ys, ex, hx, hy, q⟩ := q1
  subst ex
  cases r1 with
  | cons r rr =>
  cases rr with
  | cons r' rr =>
  cases rr
  cases r
  cases r'
  obtain ⟨o1, Hq1, n1, P1, St1, S1⟩ := src_of I1 hx
  obtain ⟨o2, Hq2, n2, P2, St2, S2⟩ := src_of I1 hy
  refine zip_begins2 S1.beg S2.beg S1.now S2.now fun h1 hz hTI hTO g1 g2 hsz hk => Calls.spliced_nil ?_
  have I2 : Inv X pins σ H1 { s1 with heap := h1 } := I1.kept (t' := s1.toks) hk
  have hh : X.A.handled = none := I1.ok.hd hc
  have lt1 := S1.lt
  have lt2 := S2.lt
  -- the new list
  refine callType_codes (Q₁ := fun obj s₁ => obj = .ref h1.objs.size ∧ s₁ = { s1 with heap := h1.push { cls := .type "list", data := .seq #[] } }) PySem.F.called_list (PySem.F.typeCall_list_1 _) PySem.F.entry_list_init
    (code_list_new _ ⟨rfl, rfl⟩) fun obj s₁ h₁ => ?_
  obtain ⟨rfl, rfl⟩ := h₁
  have fr : H1 h1.objs.size = none := I2.hok.fresh (Nat.le_refl _)
  have I3 : Inv X pins σ (upd H1 h1.objs.size (.lst [])) { s1 with heap := h1.push { cls := .type "list", data := .seq #[] } } := I2.lnew (its := []) (t' := s1.toks) .nil (Nat.zero_le _)
  have hS : (h1.push { cls := .type "list", data := .seq #[] }).get? h1.objs.size = some { cls := .type "list", data := .seq #[] } := Heap.get?_push_size _ rfl
  refine ⟨⟨_, hS, rfl⟩, PySem.F.args_list_init_2 _ _, ?_⟩
  show wpAny _ _ (do let old ← Builtin.List.listItems (.ref h1.objs.size); Builtin.List.listUpdate (.ref h1.objs.size) (fun _ => #[]); letGo old.toList.reverse; Builtin.List.listExtendWith (.ref h1.objs.size) (.ref (s1.heap.objs.size + 4)) .none) _ _ _
  refine wpAny_bind ?_
  unfold Builtin.List.listItems
  refine wpAny_bind (wpAny_seqItems hS rfl (wpAny_pure ?_))
  show wpAny _ _ (updateSeq h1.objs.size (fun _ => #[]) >>= fun _ => letGo (#[] : Array Value).toList.reverse >>= fun _ => Builtin.List.listExtendWith (.ref h1.objs.size) (.ref (s1.heap.objs.size + 4)) .none) _ _ _
  refine wpAny_bind (wpAny_updateSeq hS rfl ?_)
  have I4 := I3.lset (ys := []) (its := []) (its' := []) (t' := s1.toks) (f := fun _ => #[]) upd_same hS rfl .nil (Nat.zero_le _)
  have hS2 := Heap.get?_update_self (Obj.mapSeq (fun _ => (#[] : Array Value))) hS rfl
  refine wpAny_bind (wpAny_letGo ?_)
  have oth0 : ∀ c o, h1.get? c = some o → (h1.push { cls := .type "list", data := .seq #[] }).get? c = some o := fun c o e => Heap.get?_push_of_some _ e
  have oth : ∀ c o, c ≠ h1.objs.size → (h1.push { cls := .type "list", data := .seq #[] }).get? c = some o → ((h1.push { cls := .type "list", data := .seq #[] }).update h1.objs.size (Obj.mapSeq (fun _ => (#[] : Array Value)))).get? c = some o :=
    fun c o hc e => (Heap.get?_update_other _ _ (Ne.symm hc)).trans e
  have nes : ∀ c o, h1.get? c = some o → c ≠ h1.objs.size := fun c o e => Nat.ne_of_lt (Heap.lt_size e)
  have kz : ∀ c o, h1.get? c = some o → ((h1.push { cls := .type "list", data := .seq #[] }).update h1.objs.size (Obj.mapSeq (fun _ => (#[] : Array Value)))).get? c = some o := fun c o e => oth c o (nes c o e) (oth0 c o e)
  have hzT : IsZip ((h1.push { cls := .type "list", data := .seq #[] }).update h1.objs.size (Obj.mapSeq (fun _ => (#[] : Array Value)))) (s1.heap.objs.size + 4) (s1.heap.objs.size + 2) (s1.heap.objs.size + 3) .none := kz _ _ hz
  have hneS : (s1.heap.objs.size + 4 = h1.objs.size) = False := by rw [hsz]; simp
  unfold Builtin.List.listExtendWith
  refine wpAny_bind (wpAny_typeOf (T := "zip") ⟨_, hzT, rfl⟩ ?_)
  have h1' : Builtin.List.listSameRef (.ref h1.objs.size) (.ref (s1.heap.objs.size + 4)) = false := by
    have : h1.objs.size ≠ s1.heap.objs.size + 4 := by omega
    simp [Builtin.List.listSameRef, this]
  have h2' : (Value.type "zip" == Value.type "list") = false := by decide
  have h3' : (Value.type "zip" == Value.type "tuple") = false := by decide
  simp only [h1', h2', h3', Bool.or_false, Bool.false_eq_true, if_false]
  refine wpAny_bind (wpAny_pyIter_zip hzT ?_)
  refine wpAny_bind (wpAny_holding ?_)
  unfold Builtin.List.listLengthHint
  refine wpAny_bind (wpAny_specialOf (T := "zip") ⟨_, hzT, rfl⟩ zip_no_len ?_)
  show wpAny _ _ (specialOf (Value.ref _) (Str.ofString "__length_hint__") >>= _) _ _ _
  refine wpAny_bind (wpAny_specialOf (T := "zip") ⟨_, hzT, rfl⟩ zip_no_hint ?_)
  refine wpAny_pure ?_
  show wpAny _ _ (rule "list.extend.makes-room" >>= fun _ => Builtin.List.listTouch (.ref h1.objs.size) >>= fun _ => again (.builtin "list.extend.loop" ⟨[.ref h1.objs.size, .ref (s1.heap.objs.size + 4), .none], []⟩)) _ _ _
  refine wpAny_bind (wpAny_rule ?_)
  refine wpAny_bind ?_
  show wpAny _ _ (updateSeq h1.objs.size (·.push .none) >>= fun _ => updateSeq h1.objs.size (·.pop)) _ _ _
  refine wpAny_bind (wpAny_updateSeq hS2 rfl ?_)
  have hS3 := Heap.get?_update_self (Obj.mapSeq (·.push Value.none)) hS2 rfl
  refine wpAny_updateSeq (hz := by seq_fits) hS3 rfl ?_
  have hS4 := Heap.get?_update_self (Obj.mapSeq (·.pop)) hS3 rfl
  have I5 := I4.lset (ys := [.non]) (its := []) (its' := [.none]) (t' := s1.toks) (f := (·.push Value.none)) upd_same hS2 rfl (.cons rfl .nil) (by decide)
  have I6 := I5.lset (ys := []) (its := [.none]) (its' := []) (t' := s1.toks) (f := (·.pop)) upd_same hS3 rfl .nil (Nat.zero_le _)
  have hU : ∀ o1 o2 o3 o4 : HO, upd (upd (upd (upd H1 h1.objs.size o1) h1.objs.size o2) h1.objs.size o3) h1.objs.size o4 = upd H1 h1.objs.size o4 := fun o1 o2 o3 o4 => by
    funext c
    by_cases hcS : c = h1.objs.size
    · subst hcS; rw [upd_same, upd_same]
    · rw [upd_ne hcS, upd_ne hcS, upd_ne hcS, upd_ne hcS, upd_ne hcS]
  rw [hU] at I6
  have kz2 : ∀ c o, h1.get? c = some o → ((((h1.push { cls := .type "list", data := .seq #[] }).update h1.objs.size (Obj.mapSeq (fun _ => (#[] : Array Value)))).update h1.objs.size (Obj.mapSeq (·.push Value.none))).update h1.objs.size (Obj.mapSeq (·.pop))).get? c = some o := fun c o e =>
    (Heap.get?_update_other _ _ (Ne.symm (nes c o e))).trans ((Heap.get?_update_other _ _ (Ne.symm (nes c o e))).trans (kz c o e))
  have Sp : ZipSep2 (s1.heap.objs.size + 4) (s1.heap.objs.size + 2) (s1.heap.objs.size + 3) s1.heap.objs.size (s1.heap.objs.size + 1) [s1.heap.objs.size, a] [s1.heap.objs.size + 1, b] :=
    zsep _ _ _ lt1 lt2
  have fp : ∀ c, s1.heap.objs.size ≤ c → c < h1.objs.size → FpOk X pins (upd H1 h1.objs.size (.lst [])) c := fun c h1' h2' => fpOk_upd (I1.fpOk h1' (I1.hok.fresh h1')) (Nat.ne_of_lt h2')
  have szS : ((((h1.push { cls := .type "list", data := .seq #[] }).update h1.objs.size (Obj.mapSeq (fun _ => (#[] : Array Value)))).update h1.objs.size (Obj.mapSeq (·.push Value.none))).update h1.objs.size (Obj.mapSeq (·.pop))).objs.size = h1.objs.size + 1 := by
    rw [Heap.size_update, Heap.size_update, Heap.size_update, Heap.size_push]
  refine wpAny_pure ⟨plainId_quiet PySem.F.plain_extend_loop _, ?_⟩
  refine zip_loop (A := X.A.in1) (St1 := St1 s1.heap.objs.size) (St2 := St2 (s1.heap.objs.size + 1)) (a := a) (b := b) (TI := s1.heap.objs.size + 2) (TO := s1.heap.objs.size + 3) Sp (S1.draws _ (Nat.ne_of_gt lt1) _ hh) (S2.draws _ (Nat.ne_of_gt (Nat.lt_succ_of_lt lt2)) _ hh) S1.at_ S2.at_ ?_ _ ?_ H1 fr (min n1 n2) 0 _ _ [] rfl (Nat.zero_le _) I6 upd_same rfl ?_ ?_ (fun c o e => ?_) (fun j T hj => by simp at hj) ?_
  · simp only [List.mem_cons, List.not_mem_nil, or_false, not_or]
    exact ns7 _ _ _ _ hsz lt1 lt2
  · have h1' := S1.len
    have h2' : xs.length ≤ sizeLine := by
      rcases hx with hx | hx
      · obtain ⟨_, _, _, z⟩ := I1.list hx; exact z
      · obtain ⟨_, _, _, z⟩ := I1.tuple hx; exact z
    omega
  · exact ⟨kz2 _ _ hTI, S1.start _ _ (S1.beg.keeps _ _ S1.now fun c o e => kz2 c o (hk c o e)) (kz2 _ _ g1), S2.start _ _ (S2.beg.keeps _ _ S2.now fun c o e => kz2 c o (hk c o e)) (kz2 _ _ g2), .inl ⟨kz2 _ _ hz, _, _, kz2 _ _ hTO⟩⟩
  · intro c hcm
    have hc2 : s1.heap.objs.size ≤ c ∧ c < h1.objs.size := by
      simp only [List.mem_cons, List.not_mem_nil, or_false] at hcm
      exact in5 _ _ _ hsz hcm
    refine ⟨fp c hc2.1 hc2.2, ?_⟩
    show c < _
    rw [szS]; exact Nat.lt_succ_of_lt hc2.2
  · rw [upd_ne (ne_of_none e fr)]; exact e
  · intro Hc s' Ts I' hS' hl k0 pr
    refine ⟨rfl, .ref _, _, I', (show RelV (.ref h1.objs.size) (.ref h1.objs.size) from rfl), q _ _ Ts k0 fr hS' (by rw [hl, S1.len, S2.len]) pr⟩
end
end EE

/-! layer E, part I: methods that change a slot's list, stores, slices, list(zip(..)) -/
namespace EE
open PySem PySem.Spec
open PyProof.Rows hiding St
open L2

section
variable {K : PySem.W.Frag} {A : Nat → Addr} {σ : L2.St} {H : Hp} {ρ : Rho} {F : Fp} {i : Nat} {d d' : D} {g' : List Addr} {a : Addr} {s : Sl} {o : HO}
theorem EnvR.mutate (e : EnvR K A σ H ρ F) (hs : ρ[i]? = some s) (hd : s.dat = some d) (hv : σ[i]? = some (some (.ref a))) (ha : a ∈ F i) (w : Ow K (upd H a o) (.ref a) d' g') (nd : g'.Nodup) (dj : ∀ b ∈ g', ∀ j, j ≠ i → b ∉ F j) :
    EnvR K A σ (upd H a o) (ρ.set i (wbS s d')) (F.put i g') := by
  have hi := (List.getElem?_eq_some_iff.mp hs).1
  have e1 : EnvR K A σ H (ρ.set i .un) (F.put i []) := e.gone
  have e2 : EnvR K A σ (upd H a o) (ρ.set i .un) (F.put i []) := e1.stay fun b u q z => by
    rw [upd_ne fun h => ?_]
    · exact q
    · subst h
      rcases z with z | ⟨j, z⟩
      · exact e.notFix q z ⟨i, ha⟩
      · by_cases hj : j = i
        · subst hj; rw [Fp.put_same] at z; cases z
        · rw [Fp.put_ne hj] at z; exact hj (e.dj j i b z ha)
  have hdat : (wbS s d').dat = some d' := by cases s <;> rfl
  have e3 := e2.put (σ' := σ) (s' := wbS s d') (d := d') (i := i) (v := .ref a) (g := g') (by simpa using hi) hv (fun _ _ => rfl) hdat w nd (fun b hb j hj z => by rw [Fp.put_ne hj] at z; exact dj b hb j hj z) (fun x hx => by
    cases s with
    | un => cases hd
    | dt y => cases hx
    | io y =>
      have := e.io i y hs
      rw [hv] at this
      exact Option.some.inj (Option.some.inj this)) rfl
  have eF : (F.put i []).put i g' = F.put i g' := by
    funext j
    by_cases hj : j = i
    · subst hj; rw [Fp.put_same, Fp.put_same]
    · rw [Fp.put_ne hj, Fp.put_ne hj, Fp.put_ne hj]
  have eR : (ρ.set i .un).set i (wbS s d') = ρ.set i (wbS s d') := by simp
  rw [eF, eR] at e3
  exact e3
theorem stp_mut {S S' : Addr → Prop} (ha : S a) (hS : ∀ b, S' b → S b) : Stp H S (upd H a o) S' :=
  ⟨fun b u q n => by
    rw [upd_ne fun h => n (by rw [h]; exact ha)]
    exact q, fun b q => .inr (hS b q)⟩
/-- an owned list by its parts -/
theorem Ow.own {v : V} {xs : List D} {g : List Addr} (w : Ow K H v (.nd (.lst true) xs) g) : ∃ (a : Addr) (vs : List V) (fs : List (List Addr)), v = .ref a ∧ H a = some (.lst vs) ∧ vs.length = xs.length ∧ fs.length = xs.length ∧ g = a :: fs.flatten ∧
    ∀ (i : Nat) v d f, vs[i]? = some v → xs[i]? = some d → fs[i]? = some f → Ow K H v d f := by
  cases w with
  | fz w =>
    cases w with
    | nd h1 h2 h3 => exact False.elim h1
  | @nd a k vs _ fs h1 h2 h3 h4 => exact ⟨a, vs, fs, rfl, h1, h2, h3, rfl, h4⟩
theorem Ow.upd {v : V} {x : D} {g : List Addr} (w : Ow K H v x g) (n : a ∉ g) (m : ∀ u, H a = some u → ¬ Fix u) : Ow K (upd H a o) v x g := w.stay fun b u q z => by
  rw [upd_ne fun h => ?_]
  · exact q
  · subst h
    rcases z with z | z
    · exact m u q z
    · exact n z
end

theorem Stp.weakNil {H H' : Hp} {S S' : Addr → Prop} (h : Stp H (plus S []) H' S') : Stp H S H' S' := ⟨fun b o e n => h.1 b o e fun z => n (plus_nil b z), fun b z => (h.2 b z).imp id (plus_nil b)⟩
/-- a slot's list gets other items -/
theorem own_mut {K : PySem.W.Frag} {A : Nat → Addr} {σ : L2.St} {H : Hp} {ρ : Rho} {F : Fp} {i : Nat} {a : Addr} {s : Sl} {xs ys : List D} {vs vs' : List V} {fs' : List (List Addr)} {g : List Addr} (e : EnvR K A σ H ρ F) (hs : ρ[i]? = some s) (hd : s.dat = some (.nd (.lst true) xs))
    (hv : σ[i]? = some (some (.ref a))) (ha : a ∈ F i) (hH : H a = some (.lst vs)) (l1 : vs'.length = ys.length) (l2 : fs'.length = ys.length) (kids : ∀ (j : Nat) v d f, vs'[j]? = some v → ys[j]? = some d → fs'[j]? = some f → Ow K H v d f)
    (nd : fs'.flatten.Nodup) (sub : ∀ b ∈ fs'.flatten, b ∈ F i ∨ b ∈ g) (na : a ∉ fs'.flatten) (dj : ∀ b ∈ g, ¬ fsS F b) :
    EnvR K A σ (upd H a (.lst vs')) (ρ.set i (wbS s (.nd (.lst true) ys))) (F.put i (a :: fs'.flatten)) ∧ ∀ g2 : List Addr, (∀ b ∈ g2, b ∈ F i ∨ b ∈ g) → Stp H (plus (fsS F) g) (upd H a (.lst vs')) (plus (fsS (F.put i (a :: fs'.flatten))) g2) := by
  have nfix : ∀ u, H a = some u → ¬ Fix u := fun u q z => by rw [hH] at q; cases q; exact z
  have wn : Ow K (upd H a (.lst vs')) (.ref a) (.nd (.lst true) ys) (a :: fs'.flatten) :=
    .nd (k := .lst true) (show OwAt _ a (.lst true) _ from upd_same) l1 l2 fun j u y f h1 h2 h3 => (kids j u y f h1 h2 h3).upd (fun z => na (mem_flat h3 z)) nfix
  have sub' : ∀ b ∈ a :: fs'.flatten, b ∈ F i ∨ b ∈ g := fun b hb => by
    rcases List.mem_cons.mp hb with rfl | hb
    · exact .inl ha
    · exact sub b hb
  refine ⟨e.mutate hs hd hv ha wn (List.nodup_cons.mpr ⟨na, nd⟩) fun b hb j hj z => ?_, fun g2 hg2 => stp_mut (S := plus (fsS F) g) (.inl ⟨i, ha⟩) fun b q => ?_⟩
  · rcases sub' b hb with q | q
    · exact hj (e.dj j i b z q)
    · exact dj b q ⟨j, z⟩
  · rcases q with q | q
    · rcases Fp.put_sub q with q | q
      · exact .inl q
      · exact (sub' b q).imp (fun q => ⟨i, q⟩) id
    · exact (hg2 b q).imp (fun q => ⟨i, q⟩) id

section
variable {X : Cx} {Γ : Ct}
def isOwn (ρ : Rho) (i : Nat) : Bool := match slot ρ i with
  | some (.nd (.lst true) _) => true
  | _ => false
/-- what a slot's own list is changed by -/
def chg (i : Nat) (m : List D → Option (List D × D)) (ρ : Rho) : Out R := match ρ[i]? with
  | some s => (match s.dat with
    | some (.nd (.lst true) xs) => (match m xs with
      | some (ys, z) => .ok (.val z) (ρ.set i (wbS s (.nd (.lst true) ys)))
      | none => .no)
    | _ => .no)
  | none => .no
theorem chg_ok {A : Nat → Addr} {σ : L2.St} {H H1 : Hp} {S : Addr → Prop} {ρ1 : Rho} {F1 : Fp} {i : Nat} {m : List D → Option (List D × D)} {Q : VK} {a : Addr} {P : Prop} (h : Go Γ A (ResR Γ.K) σ H S (chg i m ρ1) Q) (e1 : EnvR Γ.K A σ H1 ρ1 F1) (hσ : σ[i]? = some (some (.ref a)))
    (hk : ∀ (s : Sl) (xs : List D) (vs : List V) (fs : List (List Addr)) (ys : List D) (z : D), ρ1[i]? = some s → s.dat = some (.nd (.lst true) xs) → H1 a = some (.lst vs) → vs.length = xs.length → fs.length = xs.length → F1 i = a :: fs.flatten → a ∉ fs.flatten → fs.flatten.Nodup → a ∈ F1 i → (∀ (j : Nat) v d f, vs[j]? = some v → xs[j]? = some d → fs[j]? = some f → Ow Γ.K H1 v d f) → m xs = some (ys, z) →
      Go Γ A (ResR Γ.K) σ H S (.ok (.val z) (ρ1.set i (wbS s (.nd (.lst true) ys)))) Q → P) : P := by
  unfold chg at h
  split at h
  · rename_i s hs
    split at h
    · rename_i xs hd'
      split at h
      · rename_i ys z hm
        obtain ⟨v', hv', w⟩ := e1.rep i s _ hs hd'
        rw [hσ] at hv'; cases hv'
        obtain ⟨a', vs, fs, ea, hH1, l1, l2, hF, kids⟩ := w.own
        cases ea
        have ndF := e1.nd i
        rw [hF] at ndF
        obtain ⟨na, ndf⟩ := List.nodup_cons.mp ndF
        exact hk s xs vs fs ys z hs hd' hH1 l1 l2 hF na ndf (by rw [hF]; exact List.mem_cons_self) kids hm h
      · exact False.elim h
    · exact False.elim h
  · exact False.elim h
/-- the receiver as a value -/
theorem isOwn_at {A : Nat → Addr} {σ : L2.St} {H : Hp} {ρ : Rho} {F : Fp} {i : Nat} (e : EnvR Γ.K A σ H ρ F) (h : isOwn ρ i = true) : ∃ (a : Addr) (xs : List V), σ[i]? = some (some (.ref a)) ∧ H a = some (.lst xs) := by
  unfold isOwn at h
  split at h
  · rename_i xs hs
    obtain ⟨s, h1, h2, _⟩ := slot_at hs
    obtain ⟨v, hv, w⟩ := e.rep i s _ h1 h2
    obtain ⟨a, vs, fs, rfl, q, _⟩ := w.own
    exact ⟨a, vs, hv, q⟩
  · cases h
theorem tyV_own {K : PySem.W.Frag} {a : Addr} {xs : List V} {H : Hp} (h : H a = some (.lst xs)) : tyV K "list" (.ref a) H := .inl ⟨rfl, xs, SqL.of h⟩
/-- append -/
def mApp (d : D) (xs : List D) : Option (List D × D) := if xs.length < sizeLine then some (xs ++ [d], .non) else none
def appB (i : Nat) (r : R) (ρ : Rho) : Out R := match r with
  | .val d => chg i (mApp d) ρ
  | .bor _ => .no
def fApp (i : Nat) (f : FE) : FE := fun ρ => if isOwn ρ i then (f ρ).bind (appB i) else .no
theorem x_append {i : Nat} {x : Str} {e : Expr} {f : FE} {p apos cpos : Pos} (hN : X.N[i]? = some x) (hv : Vis X.env.scope x) (he : XE' X Γ e f) (hd : (x == ("__debug__" : Str)) = false := by decide) (hcd : (x == ("__classdict__" : Str)) = false := by decide)
    (hbase : attributeBase (.Name x p) "append" X.env (eval (.Name x p) X.env) = eval (.Name x p) X.env := by rfl)
    (hfew : ((backTo cpos (starEach [e] X.env)).all (fun x => !x.1) && (backToKw cpos (keywordEach [] X.env)).all (fun x => x.1.isSome)
      && decide ([e].length + ([] : List Keyword).length + (if ([] : List Keyword).isEmpty then 0 else 1) < 30)) = true := by rfl)
    (hline : (apos.endLine == cpos.line) = true := by rfl) (hs : starEach [e] X.env = (false, eval e X.env) :: starEach [] X.env := by rfl) :
    XE' X Γ (.Call (.Attribute (.Name x p) "append" apos) [e] [] cpos) (fApp i f) := by
  refine PE.imp (pe_bm PySem.F.plainAttrs_list PySem.F.slot_list_append PySem.F.type_list_append mt_append (pe_var hN hv hd hcd) (pa_cons he pa_nil hs) hbase hfew hline hs rfl) fun σ H Q ⟨ρ, A, F, e, h⟩ => ?_
  unfold fApp at h
  split at h
  · rename_i how
    obtain ⟨a, vs0, hσ, hH0⟩ := isOwn_at e how
    refine ⟨_, hσ, tyV_own hH0, ρ, A, F, e, Go.bind h Stp.refl fun r ρ1 v H1 F1 g1 _ e1 st1 q1 h1 => ?_⟩
    cases r with
    | bor j => exact False.elim h1
    | val d =>
      refine chg_ok h1 e1 hσ fun s xs vs fs ys z hs hd' hH1 l1 l2 hF na ndf haF kids hm h2 => ?_
      unfold mApp at hm
      split at hm
      · rename_i hsz
        cases hm
        obtain ⟨wd, ndd, djd⟩ := q1
        have fl : (fs ++ [g1]).flatten = fs.flatten ++ g1 := by simp
        obtain ⟨e2, st2⟩ := own_mut (vs' := vs ++ [v]) (ys := xs ++ [d]) (fs' := fs ++ [g1]) (g := g1) e1 hs hd' hσ haF hH1 (by simp [l1]) (by simp [l2]) (fun j u y f h1 h2 h3 => by
          by_cases hj : j < vs.length
          · rw [List.getElem?_append_left hj] at h1
            rw [List.getElem?_append_left (by omega)] at h2 h3
            exact kids j u y f h1 h2 h3
          · have hjj : j = vs.length := by
              have := (List.getElem?_eq_some_iff.mp h1).1
              simp at this; omega
            subst hjj
            rw [List.getElem?_append_right (Nat.le_refl _), Nat.sub_self] at h1
            rw [l1, List.getElem?_append_right (Nat.le_refl _), Nat.sub_self] at h2
            rw [l1, ← l2, List.getElem?_append_right (Nat.le_refl _), Nat.sub_self] at h3
            cases h1; cases h2; cases h3
            exact wd) (by rw [fl]; exact List.nodup_append.mpr ⟨ndf, ndd, fun b hb c hc q => by subst q; exact djd b hc ⟨i, by rw [hF]; exact List.mem_cons_of_mem _ hb⟩⟩)
          (fun b hb => by
            rw [fl] at hb
            rcases List.mem_append.mp hb with hb | hb
            · exact .inl (by rw [hF]; exact List.mem_cons_of_mem _ hb)
            · exact .inr hb) (fun z => by
            rw [fl] at z
            rcases List.mem_append.mp z with z | z
            · exact na z
            · exact djd a z ⟨i, haF⟩) djd
        exact ⟨a, vs, v, rfl, rfl, hH1, by rw [l1]; exact hsz, Go.ok (g := []) h2 e2 (st1.trans (st2 [] fun b hb => nomatch hb)) ⟨.fz .non, List.nodup_nil, fun b hb => nomatch hb⟩⟩
      · cases hm
  · exact False.elim h
end
end EE
namespace EE
open PySem PySem.Spec
section
open PySem.AutoSeq1
theorem list_extW (T : String) (hT : T = "list" ∨ T = "tuple") (l : Addr) (items : Array Value) (n : Nat) (b : Addr) (items2 : Array Value) (n2 : Nat) (dd : Option Addr) (sl : Array (Option Value)) (hs0 : ¬(!items.isEmpty && Builtin.List.listTooLong (items.size + items2.size)) = true) (hs1 : items.size ≤ sizeLine) (hs2 : items.size + items2.size ≤ sizeLine + 1 := by seq_fits) :
    Meets (Builtin.«list.extend» ⟨[.ref l, .ref b], []⟩) (fun _ R s => s.heap.get? l = some { cls := .type "list", dict := none, data := .seq items n, slots := #[] } ∧ s.heap.get? b = some { cls := .type T, dict := dd, data := .seq items2 n2, slots := sl } ∧ R (.ok (.ret Value.none)) { s with heap := s.heap.update l (Obj.mapSeq fun x => x ++ items2), toks := s.toks }) := by
  rcases hT with rfl | rfl
  · exact .of_wp fun prog w A R s h => by
      obtain ⟨hp, g, d, tk, os⟩ := s; obtain ⟨hl, hb, h⟩ := h; have f1 := idx_int; have f2 := sub_tuple_tuple; have f3 := sub_list_list; have f4 := sub_tuple_list; have f5 := sub_list_tuple;
      have hz' : (items ++ items2).size ≤ sizeLine + 1 := by rw [Array.size_append]; exact hs2
      wp_walk using (wpAny_updateSeq hl rfl (hz := hs1) (_hz' := hz')), wpAny_loadPart' hl, wpAny_loadPart' hb; exact ⟨_, rfl, h⟩
  · exact .of_wp fun prog w A R s h => by
      obtain ⟨hp, g, d, tk, os⟩ := s; obtain ⟨hl, hb, h⟩ := h; have f1 := idx_int; have f2 := sub_tuple_tuple; have f3 := sub_list_list; have f4 := sub_tuple_list; have f5 := sub_list_tuple;
      have hz' : (items ++ items2).size ≤ sizeLine + 1 := by rw [Array.size_append]; exact hs2
      wp_walk using (wpAny_updateSeq hl rfl (hz := hs1) (_hz' := hz')), wpAny_loadPart' hl, wpAny_loadPart' hb; exact ⟨_, rfl, h⟩
end
end EE
namespace EE
open PySem PySem.Spec
open PyProof.Rows hiding St
open L2
section
variable {X : Cx} {Γ : Ct}
/-- extend: by a list or a tuple -/
def rExtA (K : PySem.W.Frag) : V → List V → Hp → VK → Prop := fun x vs H Q => ∃ l b xs zs, x = .ref l ∧ vs = [.ref b] ∧ H l = some (.lst xs) ∧ (SqL K H b zs ∨ SqT K H b zs) ∧ xs.length + zs.length ≤ sizeLine ∧ Q .non (upd H l (.lst (xs ++ zs)))
theorem mt_extA : MtM X "list.extend" (rExtA X.K) := by
  intro pins s σ H x vs v us Q I rx rv h
  obtain ⟨l, b, xs, zs, rfl, rfl, hH, hB, hz, q⟩ := h
  cases rx
  obtain ⟨u, rfl, ru⟩ := rv.one
  cases ru
  obtain ⟨z, its, n, r, hl, e⟩ := I.lstM hH
  have key : ∃ (T : String) (its2 : List Value) (n2 : Nat) (dd : Option Addr) (sl : Array (Option Value)), (T = "list" ∨ T = "tuple") ∧ Vals zs its2 ∧ s.heap.get? b = some { cls := .type T, dict := dd, data := .seq its2.toArray n2, slots := sl } := by
    rcases hB with hB | hB
    · obtain ⟨its2, r2, ⟨⟨cls2, dd2, data2, sl2⟩, n2, ho2, hc2, hdn2, hd2⟩, _⟩ := I.list hB
      simp only at hc2 hd2
      subst hc2 hd2
      exact ⟨_, _, _, _, _, .inl rfl, r2, ho2⟩
    · obtain ⟨its2, r2, ⟨⟨cls2, dd2, data2, sl2⟩, ho2, hc2, n2, hd2⟩, _⟩ := I.tuple hB
      simp only at hc2 hd2
      subst hc2 hd2
      exact ⟨_, _, _, _, _, .inr rfl, r2, ho2⟩
  obtain ⟨T, its2, n2, dd, sl, hT, r2, e2⟩ := key
  have hl2 := r2.length
  have hsz : its.toArray.size + its2.toArray.size ≤ sizeLine := by rw [List.size_toArray, List.size_toArray]; omega
  have hlong : ¬ (!its.toArray.isEmpty && Builtin.List.listTooLong (its.toArray.size + its2.toArray.size)) = true := by
    rw [notLongL hsz, Bool.and_false]
    exact Bool.false_ne_true
  refine call_meets PySem.F.slot_list_extend ⟨_, e, rfl⟩ PySem.F.entry_list_extend (PySem.F.args_list_extend_2 _ _)
    (list_extW T hT l its.toArray n b its2.toArray n2 dd sl hlong (by rw [List.size_toArray]; omega) (by omega)) ⟨e, e2, ?_⟩
  refine ⟨.non, _, I.lset (its' := its ++ its2) hH e (by simp) (r.append r2) ?_, rfl, q⟩
  rw [List.length_append]
  omega
def mExt (zs xs : List D) : Option (List D × D) := if xs.length + zs.length ≤ sizeLine ∧ D.isFL zs = true then some (xs ++ zs, .non) else none
def extB (i : Nat) (r : R) (ρ : Rho) : Out R := match rd ρ r with
  | some d => (match seqOf d with
    | some zs => chg i (mExt zs) ρ
    | none => .no)
  | none => .no
def fExt (i : Nat) (f : FE) : FE := fun ρ => if isOwn ρ i then (f ρ).bind (extB i) else .no
theorem Ow.seq {K : PySem.W.Frag} {H : Hp} {v : V} {d : D} {xs : List D} {g : List Addr} (w : Ow K H v d g) (h : seqOf d = some xs) : ∃ (a : Addr) (vs : List V), v = .ref a ∧ (SqL K H a vs ∨ SqT K H a vs) ∧ vs.length = xs.length ∧ ∀ (i : Nat) v d, vs[i]? = some v → xs[i]? = some d → ∃ g', Ow K H v d g' := by
  unfold seqOf at h
  split at h <;> cases h
  · obtain ⟨a, vs, rfl, h1, h2, h3⟩ := w.tpl
    exact ⟨a, vs, rfl, .inr h1, h2, h3⟩
  · obtain ⟨a, vs, rfl, h1, h2, h3⟩ := w.lst
    exact ⟨a, vs, rfl, .inl h1, h2, h3⟩
theorem x_extend {i : Nat} {x : Str} {e : Expr} {f : FE} {p apos cpos : Pos} (hN : X.N[i]? = some x) (hv : Vis X.env.scope x) (fit : Γ.K = X.K) (he : XE' X Γ e f) (hd : (x == ("__debug__" : Str)) = false := by decide) (hcd : (x == ("__classdict__" : Str)) = false := by decide)
    (hbase : attributeBase (.Name x p) "extend" X.env (eval (.Name x p) X.env) = eval (.Name x p) X.env := by rfl)
    (hfew : ((backTo cpos (starEach [e] X.env)).all (fun x => !x.1) && (backToKw cpos (keywordEach [] X.env)).all (fun x => x.1.isSome)
      && decide ([e].length + ([] : List Keyword).length + (if ([] : List Keyword).isEmpty then 0 else 1) < 30)) = true := by rfl)
    (hline : (apos.endLine == cpos.line) = true := by rfl) (hs : starEach [e] X.env = (false, eval e X.env) :: starEach [] X.env := by rfl) :
    XE' X Γ (.Call (.Attribute (.Name x p) "extend" apos) [e] [] cpos) (fExt i f) := by
  refine PE.imp (pe_bm PySem.F.plainAttrs_list PySem.F.slot_list_extend PySem.F.type_list_extend mt_extA (pe_var hN hv hd hcd) (pa_cons he pa_nil hs) hbase hfew hline hs rfl) fun σ H Q ⟨ρ, A, F, e, h⟩ => ?_
  unfold fExt at h
  split at h
  · rename_i how
    obtain ⟨a, vs0, hσ, hH0⟩ := isOwn_at e how
    refine ⟨_, hσ, tyV_own hH0, ρ, A, F, e, Go.bind h Stp.refl fun r ρ1 v H1 F1 g1 _ e1 st1 q1 h1 => ?_⟩
    unfold extB at h1
    split at h1
    · rename_i d hd'
      split at h1
      · rename_i zs hzs
        obtain ⟨g, w⟩ := q1.read e1 hd'
        obtain ⟨b, us, rfl, hB, l3, k3⟩ := w.seq hzs
        refine chg_ok h1 e1 hσ fun s xs vs fs ys z hs hd' hH1 l1 l2 hF na ndf haF kids hm h2 => ?_
        unfold mExt at hm
        split at hm
        · rename_i hc
          cases hm
          have fl : (fs ++ List.replicate zs.length []).flatten = fs.flatten := by simp
          obtain ⟨e2, st2⟩ := own_mut (vs' := vs ++ us) (ys := xs ++ zs) (fs' := fs ++ List.replicate zs.length []) (g := []) e1 hs hd' hσ haF hH1 (by simp [l1, l3]) (by simp [l2]) (fun j u y f h1 h2 h3 => by
            by_cases hj : j < vs.length
            · rw [List.getElem?_append_left hj] at h1
              rw [List.getElem?_append_left (by omega)] at h2 h3
              exact kids j u y f h1 h2 h3
            · rw [List.getElem?_append_right (by omega)] at h1
              rw [List.getElem?_append_right (by omega)] at h2 h3
              have : f = [] := List.eq_of_mem_replicate (List.mem_of_getElem? h3)
              subst this
              rw [← l1] at h2
              exact .fz (kids_fz k3 hc.2 _ _ _ h1 h2)) (by rw [fl]; exact ndf)
            (fun b hb => by
              rw [fl] at hb
              exact .inl (by rw [hF]; exact List.mem_cons_of_mem _ hb)) (by rw [fl]; exact na) (fun b hb => nomatch hb)
          refine ⟨a, b, vs, us, rfl, rfl, hH1, by rw [← fit]; exact hB, by rw [l1, l3]; exact hc.1, Go.ok (g := []) h2 e2 ?_ ⟨.fz .non, List.nodup_nil, fun b hb => nomatch hb⟩⟩
          exact (st1.sub fun b q => .inl (plus_nil b q)).trans (st2 [] fun b hb => nomatch hb)
        · cases hm
      · exact False.elim h1
    · exact False.elim h1
  · exact False.elim h
/-- pop() -/
def mPop (xs : List D) : Option (List D × D) := match xs.getLast? with
  | some z => some (xs.dropLast, z)
  | none => none
def fPop (i : Nat) : FE := fun ρ => if isOwn ρ i then chg i mPop ρ else .no
theorem erase_flat {fs : List (List Addr)} {k : Nat} (hk : k < fs.length) : (fs.eraseIdx k).flatten.Sublist fs.flatten := by
  have e : fs = fs.take k ++ fs[k] :: fs.drop (k + 1) := by rw [List.getElem_cons_drop]; exact (List.take_append_drop k fs).symm
  conv => rhs; rw [e]
  rw [List.eraseIdx_eq_take_drop_succ, List.flatten_append, List.flatten_append, List.flatten_cons]
  exact (List.Sublist.refl _).append (List.sublist_append_right _ _)
theorem flat_one {fs : List (List Addr)} {k : Nat} (hk : k < fs.length) (nd : fs.flatten.Nodup) : fs[k].Nodup := by
  have e : fs = fs.take k ++ fs[k] :: fs.drop (k + 1) := by rw [List.getElem_cons_drop]; exact (List.take_append_drop k fs).symm
  have nd2 : (fs.take k ++ fs[k] :: fs.drop (k + 1)).flatten.Nodup := by rw [← e]; exact nd
  rw [List.flatten_append, List.flatten_cons] at nd2
  exact (List.nodup_append.mp (List.nodup_append.mp nd2).2.1).1
theorem flat_split {fs : List (List Addr)} {k : Nat} (hk : k < fs.length) (nd : fs.flatten.Nodup) : ∀ b ∈ fs[k], b ∉ (fs.eraseIdx k).flatten := by
  intro b hb z
  rw [List.eraseIdx_eq_take_drop_succ] at z
  have e : fs = fs.take k ++ fs[k] :: fs.drop (k + 1) := by rw [List.getElem_cons_drop]; exact (List.take_append_drop k fs).symm
  have nd2 : (fs.take k ++ fs[k] :: fs.drop (k + 1)).flatten.Nodup := by rw [← e]; exact nd
  rw [List.flatten_append, List.flatten_cons] at nd2
  rw [List.flatten_append] at z
  obtain ⟨_, n2, n3⟩ := List.nodup_append.mp nd2
  rcases List.mem_append.mp z with z | z
  · exact n3 b z b (List.mem_append_left _ hb) rfl
  · exact (List.nodup_append.mp n2).2.2 b hb b z rfl
theorem erase_get {α : Type} {xs : List α} {k j : Nat} : (xs.eraseIdx k)[j]? = if j < k then xs[j]? else xs[j + 1]? := by
  rw [List.getElem?_eraseIdx]
/-- an item leaves the list -/
theorem take_mut {K : PySem.W.Frag} {A : Nat → Addr} {σ : L2.St} {H : Hp} {ρ : Rho} {F : Fp} {i : Nat} {a : Addr} {s : Sl} {xs : List D} {vs : List V} {fs : List (List Addr)} {k : Nat} {v : V} {d : D} (e : EnvR K A σ H ρ F) (hs : ρ[i]? = some s) (hd : s.dat = some (.nd (.lst true) xs))
    (hv : σ[i]? = some (some (.ref a))) (hH : H a = some (.lst vs)) (l1 : vs.length = xs.length) (l2 : fs.length = xs.length) (hF : F i = a :: fs.flatten) (na : a ∉ fs.flatten) (nd : fs.flatten.Nodup)
    (kids : ∀ (j : Nat) v d f, vs[j]? = some v → xs[j]? = some d → fs[j]? = some f → Ow K H v d f) (h1 : vs[k]? = some v) (h2 : xs[k]? = some d) :
    ∃ F' g, EnvR K A σ (upd H a (.lst (vs.eraseIdx k))) (ρ.set i (wbS s (.nd (.lst true) (xs.eraseIdx k)))) F' ∧ Stp H (fsS F) (upd H a (.lst (vs.eraseIdx k))) (plus (fsS F') g) ∧ Ow K (upd H a (.lst (vs.eraseIdx k))) v d g ∧ g.Nodup ∧ ∀ b ∈ g, ¬ fsS F' b := by
  have hk := (List.getElem?_eq_some_iff.mp h2).1
  have hkf : k < fs.length := by omega
  have h3 : fs[k]? = some fs[k] := List.getElem?_eq_getElem hkf
  have haF : a ∈ F i := by rw [hF]; exact List.mem_cons_self
  have gsub : ∀ b ∈ fs[k], b ∈ fs.flatten := fun b hb => mem_flat h3 hb
  have esub : ∀ b ∈ (fs.eraseIdx k).flatten, b ∈ fs.flatten := fun b hb => (erase_flat hkf).subset hb
  obtain ⟨e2, st2⟩ := own_mut (vs' := vs.eraseIdx k) (ys := xs.eraseIdx k) (fs' := fs.eraseIdx k) (g := []) e hs hd hv haF hH (by rw [List.length_eraseIdx, List.length_eraseIdx, l1]) (by rw [List.length_eraseIdx, List.length_eraseIdx, l2]) (fun j u y f q1 q2 q3 => by
      rw [erase_get] at q1 q2 q3
      by_cases hj : j < k
      · rw [if_pos hj] at q1 q2 q3; exact kids _ _ _ _ q1 q2 q3
      · rw [if_neg hj] at q1 q2 q3; exact kids _ _ _ _ q1 q2 q3) ((erase_flat hkf).nodup nd) (fun b hb => .inl (by rw [hF]; exact List.mem_cons_of_mem _ (esub b hb))) (fun z => na (esub _ z)) (fun b hb => nomatch hb)
  refine ⟨_, fs[k], e2, (st2 fs[k] fun b hb => .inl (by rw [hF]; exact List.mem_cons_of_mem _ (gsub b hb))).weakNil, (kids k v d _ h1 h2 h3).upd (fun z => na (gsub a z)) (fun u q z => by rw [hH] at q; cases q; exact z), ?_, fun b hb ⟨j, z⟩ => ?_⟩
  · exact flat_one hkf nd
  · by_cases hj : j = i
    · subst hj
      rw [Fp.put_same] at z
      rcases List.mem_cons.mp z with rfl | z
      · exact na (gsub _ hb)
      · exact flat_split hkf nd b hb z
    · rw [Fp.put_ne hj] at z
      exact hj (e.dj j i b z (by rw [hF]; exact List.mem_cons_of_mem _ (gsub b hb)))
theorem getLast_at {α : Type} {xs : List α} {z : α} (h : xs.getLast? = some z) : xs[xs.length - 1]? = some z ∧ xs.dropLast = xs.eraseIdx (xs.length - 1) ∧ 0 < xs.length := by
  have hne : xs ≠ [] := fun e => by rw [e] at h; cases h
  have hl : 0 < xs.length := by (cases xs with | nil => exact absurd rfl hne | cons => exact Nat.succ_pos _)
  refine ⟨by rw [← List.getLast?_eq_getElem?]; exact h, ?_, hl⟩
  rw [List.eraseIdx_eq_take_drop_succ, List.dropLast_eq_take, List.drop_eq_nil_of_le (by omega), List.append_nil]
theorem x_pop {i : Nat} {x : Str} {p apos cpos : Pos} (hN : X.N[i]? = some x) (hv : Vis X.env.scope x) (hd : (x == ("__debug__" : Str)) = false := by decide) (hcd : (x == ("__classdict__" : Str)) = false := by decide)
    (hbase : attributeBase (.Name x p) "pop" X.env (eval (.Name x p) X.env) = eval (.Name x p) X.env := by rfl) (hline : (apos.endLine == cpos.line) = true := by rfl) :
    XE' X Γ (.Call (.Attribute (.Name x p) "pop" apos) [] [] cpos) (fPop i) := by
  refine PE.imp (pe_bm0 PySem.F.plainAttrs_list PySem.F.slot_list_pop PySem.F.type_list_pop mt_pop (pe_var hN hv hd hcd) hbase hline) fun σ H Q ⟨ρ, A, F, e, h⟩ => ?_
  unfold fPop at h
  split at h
  · rename_i how
    obtain ⟨a, vs0, hσ, hH0⟩ := isOwn_at e how
    refine ⟨_, hσ, tyV_own hH0, ?_⟩
    refine chg_ok h e hσ fun s xs vs fs ys z hs hd' hH1 l1 l2 hF na ndf haF kids hm h2 => ?_
    unfold mPop at hm
    split at hm
    · rename_i z' hz
      cases hm
      obtain ⟨k1, k2, k3⟩ := getLast_at hz
      obtain ⟨u, kv⟩ : ∃ u, vs[vs.length - 1]? = some u := ⟨_, List.getElem?_eq_getElem (by omega)⟩
      have ke : vs.dropLast = vs.eraseIdx (vs.length - 1) := by
        rw [List.eraseIdx_eq_take_drop_succ, List.dropLast_eq_take, List.drop_eq_nil_of_le (by omega), List.append_nil]
      obtain ⟨F', g, e2, st2, w, nd, dj⟩ := take_mut (k := xs.length - 1) e hs hd' hσ hH1 l1 l2 hF na ndf kids (by rw [← l1]; exact kv) k1
      refine ⟨a, vs, _, rfl, rfl, hH1, kv, ?_⟩
      rw [ke, l1]
      rw [k2] at h2
      exact Go.ok (g := g) h2 e2 st2 ⟨w, nd, dj⟩
    · cases hm
  · exact False.elim h
/-- pop(k), k a written int -/
def mPopAt (k : Nat) (xs : List D) : Option (List D × D) := match xs[k]? with
  | some z => if xs.length ≤ sizeLine then some (xs.eraseIdx k, z) else none
  | none => none
def popB (i : Nat) (r : R) (ρ : Rho) : Out R := match rd ρ r with
  | some (.int k) => (match slot ρ i with
    | some (.nd _ xs) => (match ixN xs.length k with
      | some j => chg i (mPopAt j) ρ
      | none => .no)
    | _ => .no)
  | _ => .no
def fPopAt (i : Nat) (f : FE) : FE := fun ρ => if isOwn ρ i then (f ρ).bind (popB i) else .no
theorem x_popAt {i : Nat} {x : Str} {e : Expr} {f : FE} {p apos cpos : Pos} (hN : X.N[i]? = some x) (hv : Vis X.env.scope x) (he : XE' X Γ e f) (hd : (x == ("__debug__" : Str)) = false := by decide) (hcd : (x == ("__classdict__" : Str)) = false := by decide)
    (hbase : attributeBase (.Name x p) "pop" X.env (eval (.Name x p) X.env) = eval (.Name x p) X.env := by rfl)
    (hfew : ((backTo cpos (starEach [e] X.env)).all (fun x => !x.1) && (backToKw cpos (keywordEach [] X.env)).all (fun x => x.1.isSome)
      && decide ([e].length + ([] : List Keyword).length + (if ([] : List Keyword).isEmpty then 0 else 1) < 30)) = true := by rfl)
    (hline : (apos.endLine == cpos.line) = true := by rfl) (hs : starEach [e] X.env = (false, eval e X.env) :: starEach [] X.env := by rfl) :
    XE' X Γ (.Call (.Attribute (.Name x p) "pop" apos) [e] [] cpos) (fPopAt i f) := by
  refine PE.imp (pe_bm PySem.F.plainAttrs_list PySem.F.slot_list_pop PySem.F.type_list_pop mt_popAt (pe_var hN hv hd hcd) (pa_cons he pa_nil hs) hbase hfew hline hs rfl) fun σ H Q ⟨ρ, A, F, e, h⟩ => ?_
  unfold fPopAt at h
  split at h
  · rename_i how
    obtain ⟨a, vs0, hσ, hH0⟩ := isOwn_at e how
    refine ⟨_, hσ, tyV_own hH0, ρ, A, F, e, Go.bind h Stp.refl fun r ρ1 v H1 F1 g1 _ e1 st1 q1 h1 => ?_⟩
    unfold popB at h1
    split at h1
    · rename_i k hk
      obtain ⟨g, w⟩ := q1.read e1 hk
      have := w.int
      subst this
      split at h1
      · rename_i kd xs0 hsl
        split at h1
        · rename_i j hj
          refine chg_ok h1 e1 hσ fun s xs vs fs ys z hs hd' hH1 l1 l2 hF na ndf haF kids hm h2 => ?_
          have : xs0 = xs := by
            unfold slot at hsl
            rw [hs] at hsl
            have hsl : s.dat = some (.nd kd xs0) := hsl
            rw [hd'] at hsl; cases hsl; rfl
          subst this
          unfold mPopAt at hm
          split at hm
          · rename_i z' hz
            split at hm <;> cases hm
            rename_i hsz
            obtain ⟨h1', h2', h3', h4'⟩ := ixN_seq hj
            have hn := line63
            have hjl := (List.getElem?_eq_some_iff.mp hz).1
            obtain ⟨u, kv⟩ : ∃ u, vs[j]? = some u := ⟨_, List.getElem?_eq_getElem (by omega)⟩
            obtain ⟨F', g', e2, st2, w', nd, dj⟩ := take_mut (k := j) e1 hs hd' hσ hH1 l1 l2 hF na ndf kids kv hz
            refine ⟨a, vs, k, j, _, rfl, rfl, hH1, by omega, by omega, by rw [l1]; exact h1', kv, ?_⟩
            exact Go.ok (g := g') h2 e2 ((st1.sub fun b q => .inl q).trans st2) ⟨w', nd, dj⟩
          · cases hm
        · exact False.elim h1
      · exact False.elim h1
    · exact False.elim h1
  · exact False.elim h
end
end EE

/-! layer E, part J: stores, slices, list(zip(..)) -/
namespace EE
open PySem PySem.Spec
open PyProof.Rows hiding St
open L2
section
variable {X : Cx} {Γ : Ct}
/-! ### xs[i] = d -/
def stB (i : Nat) (d : D) (r : R) (ρ : Rho) : Out Unit := match rd ρ r with
  | some (.int k) => (match ρ[i]? with
    | some s => (match s.dat with
      | some (.nd (.lst true) xs) => (match ixN xs.length k with
        | some j => .ok () (ρ.set i (wbS s (.nd (.lst true) (xs.set j d))))
        | none => .no)
      | _ => .no)
    | none => .no)
  | _ => .no
def gStore (i : Nat) (fi : FE) : FG := fun d ρ => if isOwn ρ i then (match fi ρ with
  | .ok r ρ1 => stB i d r ρ1
  | _ => .no) else .no
theorem set_flat_sub {fs : List (List Addr)} {g : List Addr} {j : Nat} : ∀ b ∈ (fs.set j g).flatten, b ∈ fs.flatten ∨ b ∈ g := fun b hb => by
  obtain ⟨f, hf, hb⟩ := List.mem_flatten.mp hb
  rcases List.mem_or_eq_of_mem_set hf with h | h
  · exact .inl (List.mem_flatten.mpr ⟨f, h, hb⟩)
  · exact .inr (h ▸ hb)
theorem set_flat_nd {fs : List (List Addr)} {g : List Addr} {j : Nat} (hj : j < fs.length) (nd : fs.flatten.Nodup) (ng : g.Nodup) (dj : ∀ b ∈ g, b ∉ fs.flatten) : (fs.set j g).flatten.Nodup := by
  have e : fs = fs.take j ++ fs[j] :: fs.drop (j + 1) := by rw [List.getElem_cons_drop]; exact (List.take_append_drop j fs).symm
  have nd2 : (fs.take j ++ fs[j] :: fs.drop (j + 1)).flatten.Nodup := by rw [← e]; exact nd
  have dj2 : ∀ b ∈ g, b ∉ (fs.take j ++ fs[j] :: fs.drop (j + 1)).flatten := by rw [← e]; exact dj
  rw [List.set_eq_take_append_cons_drop, if_pos hj]
  rw [List.flatten_append, List.flatten_cons] at nd2 dj2 ⊢
  obtain ⟨n1, n2, n3⟩ := List.nodup_append.mp nd2
  obtain ⟨n4, n5, n6⟩ := List.nodup_append.mp n2
  refine List.nodup_append.mpr ⟨n1, List.nodup_append.mpr ⟨ng, n5, fun a ha b hb q => ?_⟩, fun a ha b hb q => ?_⟩
  · subst q; exact dj2 a ha (List.mem_append_right _ (List.mem_append_right _ hb))
  · subst q
    rcases List.mem_append.mp hb with hb | hb
    · exact dj2 a hb (List.mem_append_left _ ha)
    · exact n3 a ha a (List.mem_append_right _ hb) rfl
theorem g_store {i : Nat} {x : Str} {ix : Expr} {fi : FE} {p pos : Pos} (hN : X.N[i]? = some x) (hv : Vis X.env.scope x) (hi : XE' X Γ ix fi) (hd : (x == ("__debug__" : Str)) = false := by decide) (hcd : (x == ("__classdict__" : Str)) = false := by decide)
    (ha : ∀ v, assign (.Subscript (.Name x p) ix pos) X.env v = (do
      let ov ← holding [v] (eval (.Name x p) X.env)
      let iv ← holding [v, ov] (eval ix X.env)
      standAt pos
      holding [v, ov, iv] (setItem ov iv v)
      release [v, ov, iv] []) := by intro _; rfl) : XG' X Γ (.Subscript (.Name x p) ix pos) (gStore i fi) [] := by
  refine PG.imp (pg_sub (pe_var hN hv hd hcd) hi set_list ha) fun v σ H Q ⟨ρ, A, F, d, g, e, w, nd, dj, h⟩ => ?_
  unfold gStore at h
  split at h
  · rename_i how
    obtain ⟨a, vs0, hσ, hH0⟩ := isOwn_at e how
    refine ⟨_, hσ, ρ, A, F, e, ?_⟩
    cases hf : fi ρ with
    | no => rw [hf] at h; exact h
    | err c fs ρ1 => rw [hf] at h; exact False.elim h
    | ok r ρ1 =>
      rw [hf] at h
      intro y H1 F1 g1 e1 st1 q1
      dsimp only at h
      unfold stB at h
      split at h
      · rename_i k hk
        obtain ⟨gk, wk⟩ := q1.read e1 hk
        have := wk.int
        subst this
        split at h
        · rename_i s hs
          split at h
          · rename_i xs hd'
            split at h
            · rename_i j hj
              have w1 := w.step dj st1 e
              have dj1 : ∀ b ∈ g, ¬ fsS F1 b := fun b hb z => w.apart dj st1 b hb (.inl z)
              obtain ⟨v', hv', w'⟩ := e1.rep i s _ hs hd'
              rw [hσ] at hv'; cases hv'
              obtain ⟨a', vs, fs, ea, hH1, l1, l2, hF, kids⟩ := w'.own
              cases ea
              have ndF := e1.nd i
              rw [hF] at ndF
              obtain ⟨na, ndf⟩ := List.nodup_cons.mp ndF
              have haF : a ∈ F1 i := by rw [hF]; exact List.mem_cons_self
              obtain ⟨_, hjl, _, _⟩ := ixN_seq hj
              have inF : ∀ b ∈ fs.flatten, b ∈ F1 i := fun b hb => by rw [hF]; exact List.mem_cons_of_mem _ hb
              obtain ⟨e2, st2⟩ := own_mut (vs' := vs.set j v) (ys := xs.set j d) (fs' := fs.set j g) (g := g) e1 hs hd' hσ haF hH1 (by simp [l1]) (by simp [l2]) (fun m u z f h1 h2 h3 => by
                  by_cases hm : j = m
                  · subst hm
                    rw [List.getElem?_set_self (by omega)] at h1 h2 h3
                    cases h1; cases h2; cases h3
                    exact w1
                  · rw [List.getElem?_set_ne hm] at h1 h2 h3
                    exact kids m u z f h1 h2 h3) (set_flat_nd (by omega) ndf nd fun b hb z => dj1 b hb ⟨i, inF b z⟩)
                (fun b hb => (set_flat_sub b hb).imp (inF b) id) (fun z => by
                  rcases set_flat_sub a z with z | z
                  · exact na z
                  · exact dj1 a z ⟨i, haF⟩) dj1
              refine ⟨a, vs, k, j, rfl, rfl, hH1, by rw [l1]; exact hj, ?_⟩
              refine h σ _ _ e2 ?_ ⟨rfl, fun _ _ => rfl⟩
              have s1 : Stp H (plus (fsS F) g) H1 (plus (fsS F1) g) := (st1.sub fun b q => .inl q).frame
              exact s1.trans ((st2 [] fun b hb => nomatch hb).sub fun b q => .inl q)
            · exact False.elim h
          · exact False.elim h
        · exact False.elim h
      · exact False.elim h
  · exact False.elim h

/-! ### slices -/
abbrev FO := Rho → Out (Option Int)
def ResO : L2.St → Hp → Fp → Option Int → Option Int → List Addr → Prop := fun _ _ _ b c g => b = c ∧ g = []
def tO (Γ : Ct) (f : FO) : TO := fun σ H Q => ∃ ρ A F, EnvR Γ.K A σ H ρ F ∧ Go Γ A ResO σ H (fsS F) (f ρ) Q
abbrev XO' (X : Cx) (Γ : Ct) (e : Option Expr) (f : FO) : Prop := PO X e (tO Γ f)
def foNo : FO := fun ρ => .ok none ρ
def oint (r : R) (ρ : Rho) : Out (Option Int) := match rd ρ r with
  | some (.int k) => .ok (some k) ρ
  | _ => .no
def foSome (f : FE) : FO := fun ρ => (f ρ).bind oint
theorem xo_none : XO' X Γ none foNo := ⟨fun pins s σ H Q I ⟨ρ, A, F, e, h⟩ => po_none.run pins s σ H Q I (Go.ok (g := []) h e (Stp.refl.sub plus_nil) ⟨rfl, rfl⟩)⟩
theorem xo_some {e : Expr} {f : FE} (he : XE' X Γ e f) : XO' X Γ (some e) (foSome f) := by
  refine ⟨fun pins s σ H Q I ⟨ρ, A, F, e, h⟩ => (po_some he).run pins s σ H Q I ?_⟩
  refine ⟨ρ, A, F, e, Go.bind h Stp.refl fun r ρ1 v H1 F1 g1 _ e1 st1 q1 h1 => ?_⟩
  unfold oint at h1
  split at h1
  · rename_i k hk
    obtain ⟨g, w⟩ := q1.read e1 hk
    exact ⟨k, w.int, Go.ok (g := []) h1 e1 (st1.sub fun c q => .inl (plus_nil c q)) ⟨rfl, rfl⟩⟩
  · exact False.elim h1
def cutD (xs : List D) (lo hi : Option Int) : List D := (xs.drop (HT.sIx xs.length 0 lo)).take (HT.sIx xs.length xs.length hi - HT.sIx xs.length 0 lo)
def slB (r : R) (lo hi : Option Int) (ρ : Rho) : Out R := match rd ρ r with
  | some (.nd .tup xs) => if D.isFL xs then .ok (.val (.nd .tup (cutD xs lo hi))) ρ else .no
  | some (.nd (.lst _) xs) => if D.isFL xs then .ok (.val (.nd (.lst true) (cutD xs lo hi))) ρ else .no
  | _ => .no
def fSl (f : FE) (lo hi : FO) : FE := fun ρ => (f ρ).bind fun r ρ1 => (lo ρ1).bind fun l ρ2 => (hi ρ2).bind fun u ρ3 => slB r l u ρ3
def rSlAny (K : PySem.W.Frag) : V → Option Int → Option Int → Hp → VK → Prop := fun x lo hi H Q => rSlL K x lo hi H Q ∨ rSlA K x lo hi H Q
theorem sl_any : SlR X (rSlAny X.K) := sl_list.or sl_tupA
theorem cut_len {vs : List V} {xs : List D} (l : vs.length = xs.length) (lo hi : Option Int) : (cutV vs lo hi).length = (cutD xs lo hi).length := by
  unfold cutV cutD
  rw [List.length_take, List.length_drop, List.length_take, List.length_drop, l]
theorem cut_kids {K : PySem.W.Frag} {H : Hp} {vs : List V} {xs : List D} (l : vs.length = xs.length) (lo hi : Option Int) (h : ∀ (i : Nat) v d, vs[i]? = some v → xs[i]? = some d → Fz K H v d) :
    ∀ (i : Nat) v d, (cutV vs lo hi)[i]? = some v → (cutD xs lo hi)[i]? = some d → Fz K H v d := fun i v d e1 e2 => by
  unfold cutV at e1
  unfold cutD at e2
  rw [List.getElem?_take] at e1 e2
  split at e1
  · rw [if_pos (by rw [← l]; assumption), List.getElem?_drop] at e2
    rw [List.getElem?_drop, l] at e1
    exact h _ v d e1 e2
  · cases e1
theorem x_slice {e : Expr} {lo hi : Option Expr} {f : FE} {fl fh : FO} {p2 pos : Pos} (hK : Γ.K = X.K) (he : XE' X Γ e f) (hl : XO' X Γ lo fl) (hh : XO' X Γ hi fh) : XE' X Γ (.Subscript e (.Slice lo hi none p2) pos) (fSl f fl fh) := by
  refine PE.imp (pe_slice sl_any he hl hh) fun σ H Q ⟨ρ, A, F, e, h⟩ => ?_
  refine ⟨ρ, A, F, e, Go.bind h Stp.refl fun r ρ1 v H1 F1 g1 _ e1 st1 q1 h1 => ?_⟩
  refine ⟨ρ1, A, F1, e1, Go.bind h1 (st1.sub fun b q => .inl q) fun lo' ρ2 l' H2 F2 g2 _ e2 st2 q2 h2 => ?_⟩
  obtain ⟨rfl, rfl⟩ := q2
  have st2' : Stp H1 (fsS F1) H2 (fsS F2) := st2.sub fun b q => .inl q
  refine ⟨ρ2, A, F2, e2, Go.bind h2 ((st1.sub fun b q => .inl q).trans st2') fun hi' ρ3 u' H3 F3 g3 _ e3 st3 q3 h3 => ?_⟩
  obtain ⟨rfl, rfl⟩ := q3
  have st3' : Stp H2 (fsS F2) H3 (fsS F3) := st3.sub fun b q => .inl q
  have q1' := (q1.step (F' := F3) e1 (st2'.trans st3') fun a z => z)
  have stA : Stp H (fsS F) H3 (fsS F3) := ((st1.sub fun b q => .inl q).trans st2').trans st3'
  unfold slB at h3
  split at h3
  · rename_i xs hx
    split at h3
    · rename_i hf
      obtain ⟨g, w⟩ := q1'.read e3 hx
      obtain ⟨a, vs, rfl, hq, l, kids⟩ := w.tpl
      have kf := kids_fz kids hf
      have pr := h3.new (g0 := []) e3 (stA.sub plus_nil)
      refine .inr ⟨a, vs, rfl, by rw [← hK]; exact hq, fun hw => ?_, fun _ p np => ?_⟩
      · have ec : cutD xs lo' hi' = xs := by
          unfold cutD
          rw [l] at hw
          rw [hw.1, hw.2]
          simp
        rw [ec] at pr
        exact pr.here (.nd (k := .tup) hq l kf)
      · exact pr.newT np (cut_len l _ _) (cut_kids l _ _ kf)
    · exact False.elim h3
  · rename_i xs hx
    split at h3
    · rename_i hf
      obtain ⟨g, w⟩ := q1'.read e3 hx
      obtain ⟨a, vs, rfl, hq, l, kids⟩ := w.lst
      have kf := kids_fz kids hf
      have pr := h3.new (g0 := []) e3 (stA.sub plus_nil)
      exact .inl ⟨a, vs, rfl, by rw [← hK]; exact hq, fun p np => pr.newL np (cut_len l _ _) (cut_kids l _ _ kf)⟩
    · exact False.elim h3
  · exact False.elim h3
/-! ### list(zip(a, b)) -/
def zp (xs ys : List D) : List D := List.zipWith (fun a b => .nd .tup [a, b]) xs ys
def sLZ (ds : List D) : Option D := match ds with
  | [x, y] => (match seqOf x, seqOf y with
    | some xs, some ys => if D.isFL xs = true ∧ D.isFL ys = true then some (.nd (.lst true) (zp xs ys)) else none
    | _, _ => none)
  | _ => none
theorem zip_kids {K : PySem.W.Frag} {H : Hp} {Ts : List Addr} {us ws : List V} {xs ys : List D} (l1 : us.length = xs.length) (l2 : ws.length = ys.length) (k1 : ∀ (i : Nat) v d, us[i]? = some v → xs[i]? = some d → Fz K H v d) (k2 : ∀ (i : Nat) v d, ws[i]? = some v → ys[i]? = some d → Fz K H v d)
    (pr : ∀ (j : Nat) T, Ts[j]? = some T → ∃ x y, us[j]? = some x ∧ ws[j]? = some y ∧ H T = some (.tup [x, y])) : ∀ (i : Nat) v d, (Ts.map V.ref)[i]? = some v → (zp xs ys)[i]? = some d → Fz K H v d := fun i v d e1 e2 => by
  rw [List.getElem?_map] at e1
  cases e : Ts[i]? with
  | none => rw [e] at e1; cases e1
  | some T =>
    rw [e] at e1; cases e1
    obtain ⟨x, y, hx, hy, hT⟩ := pr i T e
    unfold zp at e2
    rw [List.getElem?_zipWith] at e2
    have i1 := (List.getElem?_eq_some_iff.mp hx).1
    have i2 := (List.getElem?_eq_some_iff.mp hy).1
    have hx' : xs[i]? = some (xs[i]'(by omega)) := List.getElem?_eq_getElem _
    have hy' : ys[i]? = some (ys[i]'(by omega)) := List.getElem?_eq_getElem _
    rw [hx', hy'] at e2
    cases e2
    refine .nd (k := .tup) (vs := [x, y]) (SqT.of hT) rfl fun j v d e1 e2 => ?_
    match j with
    | 0 => cases e1; cases e2; exact k1 i _ _ hx hx'
    | 1 => cases e1; cases e2; exact k2 i _ _ hy hy'
    | j + 2 => simp at e1
theorem r_lz {K : PySem.W.Frag} (vs : List V) (H : Hp) (Q : VK) (h : rSemL K sLZ vs H Q) : rLZ K vs H Q := by
  obtain ⟨ds, z, hr, hz, q⟩ := h
  unfold sLZ at hz
  split at hz
  · rename_i x y
    obtain ⟨v, w, g, g', rfl, w1, w2⟩ := hr.two
    split at hz
    · rename_i xs ys hx hy
      split at hz
      · rename_i hf
        cases hz
        obtain ⟨a, us, rfl, ha, l1, k1⟩ := w1.seq hx
        obtain ⟨b, ws, rfl, hb, l2, k2⟩ := w2.seq hy
        refine ⟨a, b, us, ws, rfl, ha, hb, fun p H' Ts k np hp hl pr => ?_⟩
        have f1 := fun i v d e1 e2 => (kids_fz k1 hf.1 i v d e1 e2).stay fun c o e _ => k c o e
        have f2 := fun i v d e1 e2 => (kids_fz k2 hf.2 i v d e1 e2).stay fun c o e _ => k c o e
        have kd := zip_kids l1 l2 f1 f2 pr
        have ll : (Ts.map V.ref).length = (zp xs ys).length := by
          unfold zp
          rw [List.length_map, hl, List.length_zipWith, l1, l2]
        have w : Ow K H' (.ref p) (.nd (.lst true) (zp xs ys)) (p :: (List.replicate (zp xs ys).length []).flatten) := .nd (k := .lst true) (show OwAt H' p (.lst true) _ from hp) ll (by simp) fun i v d f e1 e2 e3 => by
          have : f = [] := List.eq_of_mem_replicate (List.mem_of_getElem? e3)
          subst this
          exact .fz (kd i v d e1 e2)
        rw [List.flatten_replicate_nil] at w
        exact q _ _ [p] k w (by simp) fun a ha => by (have : a = p := by simpa using ha); rw [this]; exact np
      · cases hz
    · cases hz
  · cases hz
theorem x_lz {e e2 : Expr} {fs : FA} {p p2 pos pos2 : Pos} (hK : Γ.K = X.K) (hgl : Gl X "list") (hml : X.mg "list" = none) (hg : Gl X "zip") (hm : X.mg "zip" = none) (hc : X.calm = true) (ha : XA' X Γ [e, e2] fs)
    (hs : starEach [e, e2] X.env = (false, eval e X.env) :: starEach [e2] X.env := by rfl) (hpl : (backTo pos2 (starEach [e2] X.env)).any (·.1) = false := by rfl)
    (hs' : starEach [.Call (.Name "zip" p2) [e, e2] [] pos2] X.env = (false, eval (.Call (.Name "zip" p2) [e, e2] [] pos2) X.env) :: starEach [] X.env := by rfl) :
    XE' X Γ (.Call (.Name "list" p) [.Call (.Name "zip" p2) [e, e2] [] pos2] [] pos) (fCall sLZ fs) :=
  PE.imp (pe_lz hgl hml hg hm hc ha hs hpl hs') (call_go fun v H Q h => by rw [← hK]; exact r_lz v H Q h)
end
end EE

/-! layer E, part K: enumerate, zip as what is gone over, lists and tuples in any mix -/
namespace EE
open PySem PySem.Spec
theorem meets_enum1 {v : Value} {o : Obj} {H : Heap → Prop} (B : Begins v o H) :
    Meets (Builtin.«enumerate.__new__» ⟨[.type "enumerate", v], []⟩) (fun _ R s => H s.heap ∧
      R (.ok (.ret (.ref (s.heap.push o).objs.size))) { s with heap := (s.heap.push o).push { cls := .type "enumerate", data := .fields #[.none, .bool false, .ref s.heap.objs.size, rawInt 0, .none, .none] } }) :=
  .of_wp fun prog w A R s h => by
    obtain ⟨hp, g, d, tk, os⟩ := s; obtain ⟨h1, h⟩ := h
    have hsub := sub_enumerate
    have q1 : ∀ {A' : Around} {E : Value → Shared → Prop} {Q : Value → Shared → Prop}, Q (.ref hp.objs.size) ⟨hp.push o, g, d, tk, os⟩ → wpAny (model prog w) A' (pyIter v) Q E ⟨hp, g, d, tk, os⟩ :=
      fun q => B.iter prog w _ _ ⟨hp, g, d, tk, os⟩ _ h1 q
    wp_walk using q1
    refine wpAny_stack_any fun st => wpAny_pure ?_
    split
    · rename_i c _ _ _ _ _
      cases (c == Value.type "enumerate")
      · wp_walk using q1
        exact ⟨_, rfl, h⟩
      · wp_walk using q1
        exact ⟨_, rfl, h⟩
    · wp_walk using q1
      exact ⟨_, rfl, h⟩
theorem enum_begins1 {prog : Program} {w : World} {A : Around} {E : Value → Shared → Prop} {s : Shared} {v : Value} {o : Obj} {H : Heap → Prop} {Q : Value → Shared → Prop} (B : Begins v o H) (h1 : H s.heap)
    (h : ∀ h', IsEnum h' (s.heap.objs.size + 1) s.heap.objs.size 0 .none → h'.get? s.heap.objs.size = some o → h'.objs.size = s.heap.objs.size + 2 →
      (∀ b o, s.heap.get? b = some o → h'.get? b = some o) → Q (.ref (s.heap.objs.size + 1)) { s with heap := h' }) :
    wpAny (model prog w) A (call (.type "enumerate") [v]) Q E s := by
  refine callType_new F.called_enumerate (by decide) (F.typeCall_enumerate_1 _) (F.newCall_enumerate_1 _) (fun obj => F.args_object_init_2 obj _) F.entry_enumerate_new
    (meets_enum1 B) ⟨h1, ?_⟩
  have hz : (s.heap.push o).objs.size = s.heap.objs.size + 1 := Heap.size_push ..
  show _ ∧ _
  rw [hz]
  have he : IsEnum ((s.heap.push o).push { cls := .type "enumerate", data := .fields #[.none, .bool false, .ref s.heap.objs.size, rawInt 0, .none, .none] }) (s.heap.objs.size + 1) s.heap.objs.size 0 .none := by
    have := Heap.get?_push_size (s.heap.push o) (o := { cls := .type "enumerate", data := .fields #[.none, .bool false, .ref s.heap.objs.size, rawInt 0, .none, .none] }) rfl
    rw [hz] at this; exact this
  refine ⟨⟨_, he, rfl⟩, h _ he (Heap.get?_push_of_some _ (Heap.get?_push_size _ B.free)) (by rw [Heap.size_push, hz]) fun b o x => Heap.get?_push_of_some _ (Heap.get?_push_of_some _ x)⟩
end EE
namespace EE
open PySem PySem.Spec
open PyProof.Rows hiding St
open L2

/-- a list (true) or a tuple (false) -/
def SqK (K : PySem.W.Frag) (k : Bool) (H : Hp) (a : Addr) (xs : List V) : Prop := match k with
  | true => SqL K H a xs
  | false => SqT K H a xs
def IsK (k : Bool) (h : Heap) (a : Addr) (its : Array Value) : Prop := match k with
  | true => h.IsList a its
  | false => h.IsTuple a its
def ItK (k : Bool) (h : Heap) (it a : Addr) (i : Nat) : Prop := match k with
  | true => h.IsListIter it a i
  | false => h.IsTupleIter it a i
def bgK (k : Bool) (a : Addr) : Obj := match k with
  | true => { cls := .type "list_iterator", data := .fields #[.ref a, .int 0 0] }
  | false => { cls := .type "tuple_iterator", data := .fields #[.ref a, .int 0 0] }
theorem IsK.lt {k : Bool} {h : Heap} {a : Addr} {its : Array Value} (q : IsK k h a its) : a < h.objs.size := by
  cases k with
  | true => obtain ⟨o, ho, _⟩ := id q; exact Heap.lt_size ho
  | false => obtain ⟨o, ho, _⟩ := id q; exact Heap.lt_size ho
theorem ItK.lt {k : Bool} {h : Heap} {it a : Addr} {i : Nat} (q : ItK k h it a i) : it < h.objs.size := by
  cases k with
  | true => obtain ⟨o, ho, _⟩ := id q; exact Heap.lt_size ho
  | false => obtain ⟨o, ho, _⟩ := id q; exact Heap.lt_size ho
theorem ItK.at {k : Bool} {h h' : Heap} {it a : Addr} {i : Nat} (q : ItK k h it a i) (e : ∀ o, h.get? it = some o → h'.get? it = some o) : ItK k h' it a i := by
  cases k with
  | true => exact Heap.IsListIter.at q e
  | false => exact Heap.IsTupleIter.at q e
theorem IsK.at {k : Bool} {h h' : Heap} {a : Addr} {its : Array Value} (q : IsK k h a its) (e : ∀ o, h.get? a = some o → h'.get? a = some o) : IsK k h' a its := by
  cases k with
  | true => exact Heap.IsList.at q e
  | false => exact Heap.IsTuple.at q e
theorem ItK.obj {k : Bool} {h : Heap} {it a : Addr} {i : Nat} (q : ItK k h it a i) : ∃ o, h.get? it = some o ∧ ∀ v, o.data ≠ .cell v := by
  cases k with
  | true => obtain ⟨o, ho, _, hd⟩ := id q; exact ⟨o, ho, fun v z => by rw [hd] at z; cases z⟩
  | false => obtain ⟨o, ho, _, hd⟩ := id q; exact ⟨o, ho, fun v z => by rw [hd] at z; cases z⟩
theorem ItK.ne_seq {k : Bool} {h : Heap} {it a : Addr} {i : Nat} {its : Array Value} (q : ItK k h it a i) (p : IsK k h a its) : it ≠ a := fun e => by
  subst e
  cases k with
  | true => obtain ⟨o, ho, hc, _⟩ := id q; obtain ⟨o', ho', hc', _⟩ := id p; rw [ho] at ho'; cases ho'; rw [hc] at hc'; exact absurd hc' (by decide)
  | false => obtain ⟨o, ho, hc, _⟩ := id q; obtain ⟨o', ho', hc', _⟩ := id p; rw [ho] at ho'; cases ho'; rw [hc] at hc'; exact absurd hc' (by decide)
theorem begK (k : Bool) (a : Addr) (its : Array Value) : Begins (.ref a) (bgK k a) fun h => IsK k h a its := by
  cases k with
  | true => exact begins_list a its
  | false => exact begins_tuple a its
theorem startK {k : Bool} {h : Heap} {it a : Addr} (e : h.get? it = some (bgK k a)) : ItK k h it a 0 := by
  cases k with
  | true => exact ⟨_, e, rfl, rfl⟩
  | false => exact ⟨_, e, rfl, rfl⟩
theorem drawsK {prog : Program} {w : World} {A : Around} (k : Bool) (hh : A.handled = none) (it a : Addr) (hne : a ≠ it) (its : Array Value) :
    Draws prog w A it [it, a] its.size (fun i v => its[i]? = some v) (fun i h => ItK k h it a i ∧ IsK k h a its) := by
  cases k with
  | true => exact Draws.list hh it a hne its
  | false => exact Draws.tuple hh it a hne its
section
variable {X : Cx} {pins : List (Addr × Obj)} {σ : L2.St} {H : Hp} {s : Shared} {a : Addr} {xs ys : List V} {k : Bool}
theorem sqK_at (I : Inv X pins σ H s) (h : SqK X.K k H a xs) : ∃ its : List Value, Vals xs its ∧ IsK k s.heap a its.toArray ∧ xs.length ≤ sizeLine := by
  cases k with
  | true => obtain ⟨its, r, p, z⟩ := I.list h; exact ⟨its, r, p.isList, z⟩
  | false => obtain ⟨its, r, p, z⟩ := I.tuple h; exact ⟨its, r, p, z⟩
theorem sqK_inj (I : Inv X pins σ H s) (h : SqK X.K k H a xs) (h' : SqK X.K k H a ys) : xs = ys := by
  cases k with
  | true => exact I.list_inj h h'
  | false => exact I.tuple_inj h h'
end
/-! ### enumerate -/
def IteK (K : PySem.W.Frag) (k : Bool) (a : Addr) (n : Nat) : It :=
  ⟨fun i H => ∃ (xs : List V) (x : V), SqK K k H a xs ∧ xs[i]? = some x ∧ xs.length = n, fun i H v H' => ∃ T x, v = .ref T ∧ H T = none ∧ H' = upd H T (.tup [.int (i : Nat), x]) ∧ ∀ xs, SqK K k H a xs → xs[i]? = some x, fun i H => ∃ xs : List V, SqK K k H a xs ∧ xs.length = n ∧ n ≤ i⟩
theorem turn_enumK {P : Program} {w : World} {K : PySem.W.Frag} {elts : List Expr} {kk : Nat} {tpos : Pos} (k : Bool) (a e it : Addr) (n : Nat) (hne : e ≠ it) (hea : e ≠ a) (hia : a ≠ it) :
    Turn P w K (.Tuple elts kk tpos) (IteK K k a n) [e, it] e (fun i h => (∃ old, IsEnum h e it ((i : Nat) : Int) old) ∧ ItK k h it a i ∧ i ≤ n) where
  mem := by simp
  obj := fun i h st b hb => by
    obtain ⟨⟨old, he⟩, hi, _⟩ := st
    have e' : b = e ∨ b = it := by simpa using hb
    rcases e' with z | z
    · rw [z]; exact ⟨_, he, fun v q => nomatch q⟩
    · rw [z]; exact hi.obj
  keep := fun i h h' st kp => let ⟨⟨old, he⟩, hi, hn⟩ := st; ⟨⟨old, kp e (by simp) _ he⟩, hi.at fun o q => kp it (by simp) o q, hn⟩
  item := by
    intro X hP hw hK hc i pins s σ H E I hf st hg
    subst hP hw hK
    obtain ⟨⟨old, he⟩, hit, hin⟩ := st
    obtain ⟨xs, x, hq, hx, hxn⟩ := hg
    obtain ⟨its, rv, p, hz⟩ := sqK_at I hq
    obtain ⟨u, hu, ru⟩ := rv.get hx
    have hel : e < s.heap.objs.size := Heap.lt_size he
    have hil : it < s.heap.objs.size := hit.lt
    have hu' : i < its.toArray.size := by simpa using (List.getElem?_eq_some_iff.mp hu).1
    refine wpAny_pyNext_enum_itemD (drawsK (A := X.A.in1) k (I.ok.hd hc) it a hia its.toArray) he ⟨hit, p⟩ hu' hne (by simp only [List.mem_cons, List.not_mem_nil, or_false, not_or]; exact ⟨hne, hea⟩) fun x' h' tk px ho st' hT hsz hk => ?_
    have : x' = u := by
      have px : its.toArray[i]? = some x' := px
      rw [List.getElem?_toArray, hu] at px; cases px; rfl
    subst this
    obtain ⟨hit', p'⟩ := st'
    refine ⟨_, rfl, wpAny_letOwnedTupleGo_enum (s := { s with heap := h', toks := tk + 1 }) ho fun h'' he' sb => ?_⟩
    have hT2 : h''.get? s.heap.objs.size = some { cls := .type "tuple", data := .seq #[.int i tk, x'] } := (sb.2 _ (Nat.ne_of_gt hel)).trans hT
    have new : ObjOk X.prog X.w (upd H s.heap.objs.size (.tup [.int (i : Nat), x])) h'' s.heap.objs.size (.tup [.int (i : Nat), x]) :=
      ⟨by show 2 ≤ sizeLine; decide, [.int i tk, x'], .cons ⟨_, rfl⟩ (.cons ru .nil), ⟨_, hT2, rfl, _, rfl⟩⟩
    have I1 : Inv X pins σ (upd H s.heap.objs.size (.tup [.int (i : Nat), x])) { s with heap := h'', toks := tk + 1 } :=
      I.turnedNew (ch := [e, it]) (fun b ob hb q => (sb.2 b (fun z => hb (by simp [z]))).trans (hk b ob (fun z => hb (by simp [z])) (fun z => hb (by simp [z])) q)) hf (Nat.le_refl _) new
    refine ⟨.ref s.heap.objs.size, _, I1, rfl, ⟨_, x, rfl, I.hok.fresh (Nat.le_refl _), rfl, fun ys hy => by rw [sqK_inj I hy hq]; exact hx⟩, ⟨⟨x', ?_⟩, hit'.at fun o q => (sb.2 it (Ne.symm hne)).trans q, by (have := rv.length); (have hu2 : i < its.length := by simpa using hu'); omega⟩, fun b hb => ?_⟩
    · have e1 : ((i + 1 : Nat) : Int) = (i : Int) + 1 := by omega
      rw [e1]; exact he'
    · have hb' : b < s.heap.objs.size := by
        have e' : b = e ∨ b = it := by simpa using hb
        rcases e' with z | z
        · rw [z]; exact hel
        · rw [z]; exact hil
      rw [upd_ne (Nat.ne_of_lt hb')]
      exact (hf b hb).1
  done := by
    intro X hP hw hK hc i pins s σ H E I hf st hg
    subst hP hw hK
    obtain ⟨⟨old, he⟩, hit, hin⟩ := st
    obtain ⟨xs, hq, hx, hx2⟩ := hg
    obtain ⟨its, rv, p, hz⟩ := sqK_at I hq
    obtain ⟨f0, f1, f2, f3, f4, f5⟩ := hf it (by simp)
    have hl := rv.length
    have hi : i = its.toArray.size := by rw [List.size_toArray]; omega
    subst hi
    exact wpAny_pyNext_enum_endD (drawsK (A := X.A.in1) k (I.ok.hd hc) it a hia its.toArray) he ⟨hit, p⟩ fun h' eb => ⟨rfl, I.turned (t' := s.toks) (fun b o hb q => eb b o hb q) f0 f1 f3 f4 f5⟩
  self := fun A i s Q E st h => let ⟨⟨_, he⟩, _⟩ := st; wpAny_pyIter_enum he h
def iEnumK (K : PySem.W.Frag) (ta : TA) : TI := fun σ H R => ta σ H fun vs H1 => ∃ k a xs, vs = [.ref a] ∧ SqK K k H1 a xs ∧ R (IteK K k a xs.length) H1
theorem pi_enumK {X : Cx} {e : Expr} {ta : TA} {p pos tpos : Pos} {elts : List Expr} {kk : Nat} (hg : Gl X "enumerate") (hm : X.mg "enumerate" = none) (ha : PA X [e] ta) (hs : starEach [e] X.env = [(false, eval e X.env)] := by rfl) :
    PI X (.Tuple elts kk tpos) (.Call (.Name "enumerate" p) [e] [] pos) (iEnumK X.K ta) := by
  refine ⟨fun pins s σ H R I h => ?_⟩
  refine Call_ (ld_blt I hg hm PyProof.Rows.boot_enumerate (PyProof.Rows.callWith_type1 (thn (ha.run pos pins s σ H _ I h) fun us s1 ⟨vs, H1, I1, r1, q1⟩ => ?_) hs rfl))
  obtain ⟨k, a, xs, ex, hq, q⟩ := q1
  subst ex
  cases r1 with
  | cons r rr =>
    cases rr
    cases r
    obtain ⟨its, rv, p', hz⟩ := sqK_at I1 hq
    refine enum_begins1 (begK k a its.toArray) p' fun h' he hit hsz hk => wpAny_pyIter_enum he ?_
    have I2 : Inv X pins σ H1 { s1 with heap := h' } := I1.kept (t' := s1.toks) hk
    have hlt := p'.lt
    refine ⟨s1.heap.objs.size + 1, [s1.heap.objs.size + 1, s1.heap.objs.size], _, _, H1, rfl, I2, turn_enumK k a (s1.heap.objs.size + 1) s1.heap.objs.size xs.length (Nat.succ_ne_self _) (Nat.ne_of_gt (Nat.lt_succ_of_lt hlt)) (Nat.ne_of_lt hlt), ⟨⟨.none, he⟩, startK hit, Nat.zero_le _⟩, fun b hb => ?_, q⟩
    have e' : b = s1.heap.objs.size + 1 ∨ b = s1.heap.objs.size := by simpa using hb
    have hle : s1.heap.objs.size ≤ b := by
      rcases e' with z | z
      · rw [z]; exact Nat.le_succ _
      · rw [z]; exact Nat.le_refl _
    exact I1.fpOk hle (I1.hok.fresh hle)

section
variable {X : Cx} {Γ : Ct}
/-- a frozen list or tuple by its parts -/
theorem Fz.seq {K : PySem.W.Frag} {H : Hp} {v : V} {d : D} {xs : List D} (w : Fz K H v d) (h : seqOf d = some xs) : ∃ (k : Bool) (a : Addr) (vs : List V), v = .ref a ∧ SqK K k H a vs ∧ vs.length = xs.length ∧ (∀ (i : Nat) v d, vs[i]? = some v → xs[i]? = some d → Fz K H v d) ∧
    ∀ H', (∀ b o, H b = some o → Fix o → H' b = some o) → SqK K k H' a vs := by
  unfold seqOf at h
  split at h <;> cases h
  · cases w with
    | @nd a _ vs _ h1 h2 h3 => exact ⟨false, a, vs, rfl, h1, h2, h3, fun H' kp => SqT.stay h1 kp⟩
  · rename_i b
    cases w with
    | @nd a _ vs _ h1 h2 h3 =>
      cases b with
      | true => exact False.elim h1
      | false => exact ⟨true, a, vs, rfl, SqZ.sq h1, h2, h3, fun H' kp => SqZ.sq (SqZ.stay h1 kp)⟩
def num (n : Nat) : List D → List D
  | [] => []
  | d :: ds => .nd .tup [.int (n : Nat), d] :: num (n + 1) ds
theorem num_at : ∀ {xs : List D} {n i : Nat}, (num n xs)[i]? = (match xs[i]? with | some d => some (.nd .tup [.int ((n + i : Nat) : Int), d]) | none => none)
  | [], n, i => by simp [num]
  | d :: ds, n, 0 => by simp [num]
  | d :: ds, n, i + 1 => by
    rw [num]
    simp only [List.getElem?_cons_succ]
    rw [num_at]
    have : n + 1 + i = n + (i + 1) := by omega
    rw [this]
theorem num_len : ∀ {xs : List D} {n : Nat}, (num n xs).length = xs.length
  | [], n => rfl
  | d :: ds, n => by simp [num, num_len]
theorem ItOk.enum {K : PySem.W.Frag} {H1 : Hp} {k : Bool} {a : Addr} {vs : List V} {xs : List D} (hs : ∀ H', (∀ b o, H1 b = some o → Fix o → H' b = some o) → SqK K k H' a vs) (hl : vs.length = xs.length) (c : ∀ (i : Nat) v d, vs[i]? = some v → xs[i]? = some d → Fz K H1 v d) :
    ItOk K (IteK K k a vs.length) H1 (num 0 xs) := by
  intro i H kf
  have hq := hs H kf
  refine ⟨fun d hd => ?_, fun hle => ?_⟩
  · rw [num_at] at hd
    split at hd
    · rename_i x hx
      cases hd
      have hi := (List.getElem?_eq_some_iff.mp hx).1
      have hv : vs[i]? = some (vs[i]'(by omega)) := List.getElem?_eq_getElem _
      refine ⟨⟨vs, _, hq, hv, rfl⟩, fun y H' ⟨T, x', e1, nT, e2, un⟩ => ?_⟩
      subst e1 e2
      have := un vs hq
      rw [hv] at this; cases this
      have kk := upd_keeps (o := .tup [.int (i : Nat), vs[i]'(by omega)]) nT
      refine ⟨kk, .nd (k := .tup) (vs := [.int (i : Nat), vs[i]'(by omega)]) (SqT.of upd_same) rfl fun j v d e1 e2 => ?_⟩
      match j with
      | 0 => cases e1; cases e2; rw [Nat.zero_add]; exact .int _
      | 1 => cases e1; cases e2; exact (c i _ _ hv hx).stay fun b o e z => kk b o (kf b o e z)
      | j + 2 => simp at e1
    · cases hd
  · rw [num_len] at hle
    exact ⟨vs, hq, rfl, by omega⟩
def enumI (r : R) (ρ : Rho) : Out (List D) := match r with
  | .val d => (match seqOf d with
    | some xs => .ok (num 0 xs) ρ
    | none => .no)
  | .bor _ => .no
def fiEnum (f : FE) : FI := fun ρ => (fFz f ρ).bind enumI
theorem xi_enum {e : Expr} {f : FE} {p pos tpos : Pos} {elts : List Expr} {kk : Nat} (hK : Γ.K = X.K) (hg : Gl X "enumerate") (hm : X.mg "enumerate" = none) (h : XE' X Γ e f) (hs : starEach [e] X.env = [(false, eval e X.env)] := by rfl) :
    XI' X Γ (.Tuple elts kk tpos) (.Call (.Name "enumerate" p) [e] [] pos) (fiEnum f) := by
  refine PI.imp (pi_enumK hg hm (pa_cons (x_fz h) pa_nil hs) hs) fun σ H R ⟨ρ, A, F, e, h⟩ => ?_
  refine ⟨ρ, A, F, e, Go.bind h Stp.refl fun r ρ1 v H1 F1 g1 ho e1 st1 q1 h1 => ?_⟩
  unfold enumI at h1
  split at h1
  · rename_i d
    have hf := fFz_isF ho
    split at h1
    · rename_i xs hxs
      obtain ⟨w, rfl⟩ := q1.1.isF hf
      obtain ⟨k, a, vs, rfl, hq, hl, c, hs⟩ := w.seq hxs
      refine ⟨k, a, vs, rfl, by rw [← hK]; exact hq, ?_⟩
      have := Go.ok (g := []) h1 e1 st1 ⟨ItOk.enum hs hl c, rfl⟩
      rw [← hK]; exact this
    · exact False.elim h1
  · exact False.elim h1
end
/-! ### zip -/
def ItzK (K : PySem.W.Frag) (k1 k2 : Bool) (a b : Addr) (n : Nat) : It :=
  ⟨fun i H => ∃ (xs ys : List V) (x y : V), SqK K k1 H a xs ∧ SqK K k2 H b ys ∧ xs[i]? = some x ∧ ys[i]? = some y ∧ min xs.length ys.length = n,
    fun i H v H' => ∃ T x y, v = .ref T ∧ H T = none ∧ H' = upd H T (.tup [x, y]) ∧ (∀ xs, SqK K k1 H a xs → xs[i]? = some x) ∧ ∀ ys, SqK K k2 H b ys → ys[i]? = some y,
    fun i H => ∃ xs ys : List V, SqK K k1 H a xs ∧ SqK K k2 H b ys ∧ min xs.length ys.length = n ∧ n ≤ i⟩
theorem turn_zipK {P : Program} {w : World} {K : PySem.W.Frag} {elts : List Expr} {kk : Nat} {tpos : Pos} {k1 k2 : Bool} {a b z TI TO i1 i2 : Addr} {n : Nat} (D : ZipSep2 z TI TO i1 i2 [i1, a] [i2, b]) :
    Turn P w K (.Tuple elts kk tpos) (ItzK K k1 k2 a b n) [z, TI, TO, i1, i2] z (fun i h => IsZip h z TI TO .none ∧ IsPair h TI (.ref i1) (.ref i2) ∧ (∃ x y, IsPair h TO x y) ∧ ItK k1 h i1 a i ∧ ItK k2 h i2 b i ∧ i ≤ n) where
  mem := by simp
  obj := fun i h st c hc => by
    obtain ⟨hz, hTI, ⟨x, y, hTO⟩, h1, h2, _⟩ := st
    have e' : c = z ∨ c = TI ∨ c = TO ∨ c = i1 ∨ c = i2 := by simpa using hc
    rcases e' with q | q | q | q | q
    · rw [q]; exact ⟨_, hz, fun v q => nomatch q⟩
    · rw [q]; exact ⟨_, hTI, fun v q => nomatch q⟩
    · rw [q]; exact ⟨_, hTO, fun v q => nomatch q⟩
    · rw [q]; exact h1.obj
    · rw [q]; exact h2.obj
  keep := fun i h h' st k => by
    obtain ⟨hz, hTI, ⟨x, y, hTO⟩, h1, h2, hn⟩ := st
    exact ⟨k z (by simp) _ hz, k TI (by simp) _ hTI, ⟨x, y, k TO (by simp) _ hTO⟩, h1.at fun o q => k i1 (by simp) o q, h2.at fun o q => k i2 (by simp) o q, hn⟩
  item := by
    intro X hP hw hK hc i pins s σ H E I hf st hg
    subst hP hw hK
    obtain ⟨hz, hTI, ⟨x0, y0, hTO⟩, h1, h2, hn⟩ := st
    obtain ⟨xs, ys, x, y, hqx, hqy, hx, hy, hmin⟩ := hg
    obtain ⟨its, rv, p, _⟩ := sqK_at I hqx
    obtain ⟨its2, rv2, p2, _⟩ := sqK_at I hqy
    obtain ⟨u, hu, ru⟩ := rv.get hx
    obtain ⟨u2, hu2, ru2⟩ := rv2.get hy
    have hzl : z < s.heap.objs.size := Heap.lt_size hz
    have ha1 : a ≠ i1 := fun e => by
      have h1' := D.zf1
      have := D.sep2_1
      exact h1.ne_seq p e.symm
    have hb1 : b ≠ i2 := fun e => h2.ne_seq p2 e.symm
    have hu' : i < its.toArray.size := by simpa using (List.getElem?_eq_some_iff.mp hu).1
    have hu2' : i < its2.toArray.size := by simpa using (List.getElem?_eq_some_iff.mp hu2).1
    refine wpAny_pyNext_zipD2_item D (drawsK (A := X.A.in1) k1 (I.ok.hd hc) i1 a ha1 its.toArray) (drawsK (A := X.A.in1) k2 (I.ok.hd hc) i2 b hb1 its2.toArray) hz hTI hTO ⟨h1, p⟩ ⟨h2, p2⟩ hu' hu2' fun x1 x2 h' tk px1 px2 z' TO' st1 st2 hT hsz hk => ?_
    have ex1 : x1 = u := by
      have px : its.toArray[i]? = some x1 := px1
      rw [List.getElem?_toArray, hu] at px; cases px; rfl
    have ex2 : x2 = u2 := by
      have px : its2.toArray[i]? = some x2 := px2
      rw [List.getElem?_toArray, hu2] at px; cases px; rfl
    subst ex1 ex2
    obtain ⟨h1', p1'⟩ := st1
    obtain ⟨h2', p2'⟩ := st2
    refine ⟨_, rfl, wpAny_letOwnedTupleGo_zip (s := { s with heap := h', toks := tk }) z' fun h'' z'' sb => ?_⟩
    have hT2 : h''.get? s.heap.objs.size = some { cls := .type "tuple", data := .seq #[x1, x2] } := (sb.2 _ (Nat.ne_of_gt hzl)).trans hT
    have new : ObjOk X.prog X.w (upd H s.heap.objs.size (.tup [x, y])) h'' s.heap.objs.size (.tup [x, y]) :=
      ⟨by show 2 ≤ sizeLine; decide, [x1, x2], .cons ru (.cons ru2 .nil), ⟨_, hT2, rfl, _, rfl⟩⟩
    have I1 : Inv X pins σ (upd H s.heap.objs.size (.tup [x, y])) { s with heap := h'', toks := tk } :=
      I.turnedNew (ch := [z, TI, TO, i1, i2]) (fun c o hb q => (sb.2 c (fun q' => hb (by simp [q']))).trans (hk c o (fun q' => hb (by simp [q'])) (fun q' => hb (by simp [q'])) (fun q' => hb (by simp [q'])) (fun q' => hb (by simp [q'])) q)) hf (Nat.le_refl _) new
    refine ⟨.ref s.heap.objs.size, _, I1, rfl, ⟨_, x, y, rfl, I.hok.fresh (Nat.le_refl _), rfl, fun l hl => by rw [sqK_inj I hl hqx]; exact hx, fun l hl => by rw [sqK_inj I hl hqy]; exact hy⟩, ⟨z'', ?_, ⟨x1, x2, ?_⟩, ?_, ?_, ?_⟩, fun c hcm => ?_⟩
    · exact (sb.2 _ D.TIz).trans (hk _ _ D.TIz D.TITO D.TIi1 D.TIi2 hTI)
    · exact (sb.2 _ D.TOz).trans TO'
    · exact h1'.at fun o q => (sb.2 _ (Ne.symm D.zi1)).trans q
    · exact h2'.at fun o q => (sb.2 _ (Ne.symm D.zi2)).trans q
    · have l1 := rv.length
      have l2 := rv2.length
      have q1 : i < its.length := by simpa using hu'
      have q2 : i < its2.length := by simpa using hu2'
      omega
    · have hlt : c < s.heap.objs.size := by
        have e' : c = z ∨ c = TI ∨ c = TO ∨ c = i1 ∨ c = i2 := by simpa using hcm
        rcases e' with q | q | q | q | q
        · rw [q]; exact hzl
        · rw [q]; exact Heap.lt_size hTI
        · rw [q]; exact Heap.lt_size hTO
        · rw [q]; exact h1.lt
        · rw [q]; exact h2.lt
      rw [upd_ne (Nat.ne_of_lt hlt)]
      exact (hf c hcm).1
  done := by
    intro X hP hw hK hc i pins s σ H E I hf st hg
    subst hP hw hK
    obtain ⟨hz, hTI, ⟨x0, y0, hTO⟩, h1, h2, hn⟩ := st
    obtain ⟨xs, ys, hqx, hqy, hmin, hend⟩ := hg
    obtain ⟨its, rv, p, _⟩ := sqK_at I hqx
    obtain ⟨its2, rv2, p2, _⟩ := sqK_at I hqy
    have l1 := rv.length
    have l2 := rv2.length
    have ha1 : a ≠ i1 := fun e => h1.ne_seq p e.symm
    have hb1 : b ≠ i2 := fun e => h2.ne_seq p2 e.symm
    have s1 : its.toArray.size = its.length := List.size_toArray
    have s2 : its2.toArray.size = its2.length := List.size_toArray
    exact wpAny_pyNext_zipD2_end D (drawsK (A := X.A.in1) k1 (I.ok.hd hc) i1 a ha1 its.toArray) (drawsK (A := X.A.in1) k2 (I.ok.hd hc) i2 b hb1 its2.toArray) hz hTI hTO ⟨h1, p⟩ ⟨h2, p2⟩ (by omega) (by omega) (by omega) fun h' tk hk => ⟨rfl, I.turnedL (t' := tk) (ch := [z, TI, TO, i1, i2]) (fun c o hb q =>
      hk c o (fun q' => hb (by simp [q'])) (fun q' => hb (by simp [q'])) (fun q' => hb (by simp [q'])) (fun q' => hb (by simp [q'])) q) hf⟩
  self := fun A i s Q E st h => wpAny_pyIter_zip st.1 h
def iZipK (K : PySem.W.Frag) (ta : TA) : TI := fun σ H R => ta σ H fun vs H1 => ∃ k1 k2 a b xs ys, vs = [.ref a, .ref b] ∧ SqK K k1 H1 a xs ∧ SqK K k2 H1 b ys ∧ R (ItzK K k1 k2 a b (min xs.length ys.length)) H1
theorem pi_zipK {X : Cx} {e e2 : Expr} {ta : TA} {p pos tpos : Pos} {elts : List Expr} {kk : Nat} (hg : Gl X "zip") (hm : X.mg "zip" = none) (ha : PA X [e, e2] ta)
    (hs : starEach [e, e2] X.env = (false, eval e X.env) :: starEach [e2] X.env := by rfl) (hpl : (backTo pos (starEach [e2] X.env)).any (·.1) = false := by rfl) :
    PI X (.Tuple elts kk tpos) (.Call (.Name "zip" p) [e, e2] [] pos) (iZipK X.K ta) := by
  refine ⟨fun pins s σ H R I h => ?_⟩
  refine Call_ (ld_blt I hg hm PyProof.Rows.boot_zip (PyProof.Rows.callWith_type1 (thn (ha.run pos pins s σ H _ I h) fun us s1 ⟨vs, H1, I1, r1, q1⟩ => ?_) hs hpl))
  obtain ⟨k1, k2, a, b, xs, ys, ex, hqx, hqy, q⟩ := q1
  subst ex
  cases r1 with
  | cons r rr =>
    cases rr with
    | cons r' rr =>
      cases rr
      cases r
      cases r'
      have fresh5 : ∀ c, c ∈ [s1.heap.objs.size + 4, s1.heap.objs.size + 2, s1.heap.objs.size + 3, s1.heap.objs.size, s1.heap.objs.size + 1] → FpOk X pins H1 c := fun c hcm => by
        have e' : c = s1.heap.objs.size + 4 ∨ c = s1.heap.objs.size + 2 ∨ c = s1.heap.objs.size + 3 ∨ c = s1.heap.objs.size ∨ c = s1.heap.objs.size + 1 := by simpa using hcm
        have hle : s1.heap.objs.size ≤ c := (in5 _ _ _ rfl e').1
        exact I1.fpOk hle (I1.hok.fresh hle)
      obtain ⟨its, rv, p1, _⟩ := sqK_at I1 hqx
      obtain ⟨its2, rv2, p2, _⟩ := sqK_at I1 hqy
      refine zip_begins2 (begK k1 a its.toArray) (begK k2 b its2.toArray) p1 p2 fun h' hz hTI hTO g1 g2 hsz hk => wpAny_pyIter_zip hz ?_
      have I2 : Inv X pins σ H1 { s1 with heap := h' } := I1.kept (t' := s1.toks) hk
      exact ⟨s1.heap.objs.size + 4, [s1.heap.objs.size + 4, s1.heap.objs.size + 2, s1.heap.objs.size + 3, s1.heap.objs.size, s1.heap.objs.size + 1], _, _, H1, rfl, I2, turn_zipK (zsep _ _ _ p1.lt p2.lt), ⟨hz, hTI, ⟨_, _, hTO⟩, startK g1, startK g2, Nat.zero_le _⟩, fresh5, q⟩
section
variable {X : Cx} {Γ : Ct}
theorem ItOk.zip {K : PySem.W.Frag} {H1 : Hp} {k1 k2 : Bool} {a b : Addr} {vs ws : List V} {xs ys : List D} (hs : ∀ H', (∀ b o, H1 b = some o → Fix o → H' b = some o) → SqK K k1 H' a vs) (hs2 : ∀ H', (∀ b o, H1 b = some o → Fix o → H' b = some o) → SqK K k2 H' b ws)
    (hl : vs.length = xs.length) (hl2 : ws.length = ys.length) (c : ∀ (i : Nat) v d, vs[i]? = some v → xs[i]? = some d → Fz K H1 v d) (c2 : ∀ (i : Nat) v d, ws[i]? = some v → ys[i]? = some d → Fz K H1 v d) :
    ItOk K (ItzK K k1 k2 a b (min vs.length ws.length)) H1 (zp xs ys) := by
  intro i H kf
  have hq := hs H kf
  have hq2 := hs2 H kf
  refine ⟨fun d hd => ?_, fun hle => ?_⟩
  · unfold zp at hd
    rw [List.getElem?_zipWith] at hd
    cases hx : xs[i]? with
    | none => rw [hx] at hd; cases hd
    | some x =>
      cases hy : ys[i]? with
      | none => rw [hx, hy] at hd; cases hd
      | some y =>
        rw [hx, hy] at hd
        cases hd
        have hi := (List.getElem?_eq_some_iff.mp hx).1
        have hi2 := (List.getElem?_eq_some_iff.mp hy).1
        obtain ⟨v, hv⟩ : ∃ v, vs[i]? = some v := ⟨_, List.getElem?_eq_getElem (by omega)⟩
        obtain ⟨w, hw⟩ : ∃ v, ws[i]? = some v := ⟨_, List.getElem?_eq_getElem (by omega)⟩
        refine ⟨⟨vs, ws, v, w, hq, hq2, hv, hw, rfl⟩, fun u H' ⟨T, x', y', e1, nT, e2, un, un2⟩ => ?_⟩
        subst e1 e2
        have := un vs hq
        rw [hv] at this; cases this
        have := un2 ws hq2
        rw [hw] at this; cases this
        have kk := upd_keeps (o := .tup [v, w]) nT
        refine ⟨kk, .nd (k := .tup) (vs := [v, w]) (SqT.of upd_same) rfl fun j v d e1 e2 => ?_⟩
        match j with
        | 0 => cases e1; cases e2; exact (c i _ _ hv hx).stay fun b o e z => kk b o (kf b o e z)
        | 1 => cases e1; cases e2; exact (c2 i _ _ hw hy).stay fun b o e z => kk b o (kf b o e z)
        | j + 2 => simp at e1
  · unfold zp at hle
    rw [List.length_zipWith] at hle
    exact ⟨vs, ws, hq, hq2, rfl, by omega⟩
def zipI (rs : List R) (ρ : Rho) : Out (List D) := match rs with
  | [.val d, .val e] => (match seqOf d, seqOf e with
    | some xs, some ys => .ok (zp xs ys) ρ
    | _, _ => .no)
  | _ => .no
def fiZip (f g : FE) : FI := fun ρ => (faCons (fFz f) (faCons (fFz g) faNil) ρ).bind zipI
theorem faFz_isF {f g : FE} {ρ ρ' : Rho} {d e : D} (h : faCons (fFz f) (faCons (fFz g) faNil) ρ = .ok [.val d, .val e] ρ') : d.isF = true ∧ e.isF = true := by
  unfold faCons at h
  cases h1 : fFz f ρ with
  | no => rw [h1] at h; cases h
  | err c fs ρ1 => rw [h1] at h; cases h
  | ok r ρ1 =>
    rw [h1, Out.bind_ok] at h
    cases h2 : fFz g ρ1 with
    | no => rw [h2] at h; cases h
    | err c fs ρ1 => rw [h2] at h; cases h
    | ok r2 ρ2 =>
      rw [h2] at h
      simp only [Out.bind_ok, faNil] at h
      injection h with h3 h4
      injection h3 with h5 h6
      injection h6 with h7 h8
      subst h5 h7
      exact ⟨fFz_isF h1, fFz_isF h2⟩
theorem xi_zip {e e2 : Expr} {f g : FE} {p pos tpos : Pos} {elts : List Expr} {kk : Nat} (hK : Γ.K = X.K) (hg : Gl X "zip") (hm : X.mg "zip" = none) (h : XE' X Γ e f) (h' : XE' X Γ e2 g)
    (hs : starEach [e, e2] X.env = (false, eval e X.env) :: starEach [e2] X.env := by rfl) (hs2 : starEach [e2] X.env = (false, eval e2 X.env) :: starEach [] X.env := by rfl) (hpl : (backTo pos (starEach [e2] X.env)).any (·.1) = false := by rfl) :
    XI' X Γ (.Tuple elts kk tpos) (.Call (.Name "zip" p) [e, e2] [] pos) (fiZip f g) := by
  refine PI.imp (pi_zipK hg hm (xa_cons (x_fz h) (xa_cons (x_fz h') xa_nil hs2) hs) hs hpl) fun σ H R ⟨ρ, A, F, e, h⟩ => ?_
  refine ⟨ρ, A, F, e, Go.bind h Stp.refl fun rs ρ1 vs H1 F1 g1 ho e1 st1 q1 h1 => ?_⟩
  unfold zipI at h1
  split at h1
  · rename_i d d'
    obtain ⟨hf, hf2⟩ := faFz_isF ho
    split at h1
    · rename_i xs ys hxs hys
      cases q1 with
      | @cons _ v g _ vs gs q t dj =>
      cases t with
      | @cons _ v' g' _ vs' gs' q' t' dj' =>
      cases t'
      obtain ⟨w, rfl⟩ := q.1.isF hf
      obtain ⟨w', rfl⟩ := q'.1.isF hf2
      obtain ⟨k1, a, us, rfl, hq, hl, c, hs⟩ := w.seq hxs
      obtain ⟨k2, b, ws, rfl, hq2, hl2, c2, hs2⟩ := w'.seq hys
      refine ⟨k1, k2, a, b, us, ws, rfl, by rw [← hK]; exact hq, by rw [← hK]; exact hq2, ?_⟩
      have := Go.ok (g := []) h1 e1 st1 ⟨ItOk.zip hs hs2 hl hl2 c c2, rfl⟩
      rw [← hK]; exact this
    · exact False.elim h1
  · exact False.elim h1
end
end EE

/-! layer E, part L: own defs in one word, keyword calls -/
namespace EE
open PySem PySem.Spec
open PyProof.Rows hiding St
open L2
section
variable {P : Program} {w : World} {K : PySem.W.Frag} {mg : Str → Option Value} {base : Heap} {N : List Str} {qual : Str} {scope : Scope} {f : Addr} {cd : Value} {A : Around} {outer : List Env} {s : Shared} {H : Hp} {E : XK}
abbrev cxE (P : Program) (w : World) (K : PySem.W.Frag) (mg : Str → Option Value) (base : Heap) (N : List Str) (qual : Str) (scope : Scope) (f : Addr) (cd : Value) (A : Around) (outer : List Env) (s : Shared) (H : Hp) (E : XK) : Cx := cxOf (L2.CX P w) P w K mg base N qual scope f cd A outer s H E
theorem takesE : Takes (cxE P w K mg base N qual scope f cd A outer s H E) (fun cls d _ H => E cls d H) := takes_of rfl rfl rfl rfl
theorem powE : PassesOwn (model P w) (cxE P w K mg base N qual scope f cd A outer s H E).A (cxE P w K mg base N qual scope f cd A outer s H E).env (cxE P w K mg base N qual scope f cd A outer s H E).xe := passes_of rfl
theorem fitE : Fit (cxE P w K mg base N qual scope f cd A outer s H E) (CtE K mg E) := ⟨rfl, rfl, fun σ => passAt takesE σ, rfl⟩
end
theorem Fit.blk {X : Cx} {Γ : Ct} (h : Fit X Γ) {s : Shared} {H : Hp} {scope : Scope} {cenv : Env} {fp : List Addr} : Fit (X.blk s H scope cenv fp) Γ.blk := ⟨h.K, h.mg, fun σ => passAt takes0 σ, h.calm⟩
theorem hu65 {A : Around} {k : Nat} (hr : Room k A) : A.units + 65 < cLine := by have := hr.un; omega
/-- a def of the program's own, as its callers see it -/
structure Own (P : Program) (w : World) (K : PySem.W.Frag) (mg : Str → Option Value) (base : Heap) (k : Nat) (x : Str) (ps : List Str) (ms : List Bool) (F : List D → CO) : Prop where
  ex : ∃ f fd, FnOk P w K mg base (L2.CX P w) k f fd ps (spF K mg ms F) ∧ mg x = some (.ref f) ∧ PySem.W.keepIn K (.ref f) = true ∧ ∀ (j : Nat) (s : Shared) (us ws : List Value), j ≤ ps.length → us.length = j → (us ++ ws).length = ps.length → BindsTo s fd ⟨us, (ps.drop j).zip ws⟩ (ps.zip (us ++ ws))
section
variable {X : Cx} {Γ : Ct}
theorem x_callO {x : Str} {k j : Nat} {ps : List Str} {ms : List Bool} {F : List D → CO} {e : Expr} {es : List Expr} {fs : FA} {p pos : Pos} (fit : Fit X Γ)
    (O : Own X.prog X.w X.K X.mg X.base k x ps ms F) (hr : Room j X.A) (hg : Gl X x) (ha : XA' X Γ (e :: es) fs) (hj : k ≤ j := by decide) (hdb : (x == ("__debug__" : Str)) = false := by decide) (he : starEach (e :: es) X.env = (false, eval e X.env) :: starEach es X.env := by rfl) (hpl : (backTo pos (starEach es X.env)).any (·.1) = false := by rfl) :
    XE' X Γ (.Call (.Name x p) (e :: es) [] pos) (fCallU ms F fs) := by
  obtain ⟨f, fd, h1, h2, h3, h4⟩ := O.ex
  refine x_call fit h1 (hr.mono hj) hg h2 h3 (fun s us _ hl => ?_) ha hdb he hpl
  rw [List.append_nil] at hl ⊢
  have := h4 ps.length s us [] (Nat.le_refl _) hl (by rw [List.append_nil]; exact hl)
  rw [List.append_nil, List.zip_nil_right] at this
  exact this
/-! ### keywords -/
abbrev XK' (X : Cx) (Γ : Ct) (e : List Keyword) (f : FA) : Prop := PK X e (tA Γ f)
theorem PK.imp {X : Cx} {e : List Keyword} {t t' : TA} (h : PK X e t) (k : ∀ σ H Q, t' σ H Q → t σ H Q) : PK X e t' := ⟨fun pos pins s σ H Q I q => h.run pos pins s σ H Q I (k _ _ _ q)⟩
theorem xk_nil : XK' X Γ [] faNil := by
  refine PK.imp pk_nil fun σ H Q ⟨ρ, A, F, e, h⟩ => ?_
  exact Go.ok (g := []) h e (Stp.refl.sub plus_nil) .nil
theorem cons_go {f : FE} {fs : FA} (σ : L2.St) (H : Hp) (Q : List V → Hp → Prop) (h : tA Γ (faCons f fs) σ H Q) : tCons (tE Γ f) (tA Γ fs) σ H Q := by
  obtain ⟨ρ, A, F, e, h⟩ := h
  refine ⟨ρ, A, F, e, Go.bind h Stp.refl fun a ρ1 v H1 F1 g1 _ e1 st1 q1 h1 => ?_⟩
  refine ⟨ρ1, A, F1, e1, Go.bind h1 (st1.sub fun b q => .inl q) fun rs ρ2 vs H2 F2 g2 _ e2 st2 q2 h2 => ?_⟩
  have st2' : Stp H1 (plus (fsS F1) g1) H2 (plus (fsS F2) (g1 ++ g2)) := st2.frame.sub fun b q => by
    rcases q with q | q
    · exact .inl (.inl q)
    · rcases List.mem_append.mp q with q | q
      · exact .inr q
      · exact .inl (.inr q)
  exact Go.ok h2 e2 (st1.trans st2') (.cons (q1.step e1 st2 fun a z => .inl z) q2 fun a ha z => q1.apart st2 a ha (.inr z))
theorem xk_cons {nm : Option Str} {e : Expr} {kpos : Pos} {kws : List Keyword} {f : FE} {fs : FA} (ha : XE' X Γ e f) (hr : XK' X Γ kws fs) : XK' X Γ (⟨nm, e, kpos⟩ :: kws) (faCons f fs) := PK.imp (pk_cons ha hr) cons_go
def faApp (fs gs : FA) : FA := fun ρ => (fs ρ).bind fun rs ρ1 => (gs ρ1).bind fun rs2 ρ2 => .ok (rs ++ rs2) ρ2
theorem ResL.append {K : PySem.W.Frag} {σ : L2.St} {H : Hp} {F : Fp} {rs rs2 : List R} {vs vs2 : List V} {g g2 : List Addr} (q : ResL K σ H F rs vs g) (q2 : ResL K σ H F rs2 vs2 g2) (dj : ∀ a ∈ g, a ∉ g2) : ResL K σ H F (rs ++ rs2) (vs ++ vs2) (g ++ g2) := by
  induction q with
  | nil => exact q2
  | @cons r v g rs vs gs q t d ih =>
    rw [List.append_assoc]
    refine .cons q (ih fun a ha => dj a (List.mem_append_right _ ha)) fun a ha z => ?_
    rcases List.mem_append.mp z with z | z
    · exact d a ha z
    · exact dj a (List.mem_append_left _ ha) z
theorem ResL.stepL {A : Nat → Addr} {σ : L2.St} {H H' : Hp} {F F' : Fp} {rs : List R} {vs : List V} {g : List Addr} {S' : Addr → Prop} {ρ : Rho} (q : ResL Γ.K σ H F rs vs g) (e : EnvR Γ.K A σ H ρ F) (st : Stp H (fsS F) H' S') (hs : ∀ a, fsS F' a → S' a) : ResL Γ.K σ H' F' rs vs g ∧ ∀ a ∈ g, ¬ S' a := by
  induction q with
  | nil => exact ⟨.nil, fun a ha => nomatch ha⟩
  | @cons r v g rs vs gs q t d ih =>
    obtain ⟨ih1, ih2⟩ := ih
    refine ⟨.cons (q.step e st hs) ih1 d, fun a ha => ?_⟩
    rcases List.mem_append.mp ha with ha | ha
    · exact q.apart st a ha
    · exact ih2 a ha
theorem run_fnkS {CX : CXT} {k : Nat} {f : Addr} {fd : FuncData} {ps ks : List Str} {sp : Sp} {E : L2.St → XK} {pins : List (Addr × Obj)} {σ : L2.St} {H : Hp} {s : Shared} {Q : VK} {us ws : List Value} {vs zs : List V} (F : FnOk X.prog X.w X.K X.mg X.base CX k f fd ps sp) (hr : Room k X.A)
    (hb : (us ++ ws).length = ps.length → BindsTo s fd ⟨us, ks.zip ws⟩ (ps.zip (us ++ ws))) (hx : PassesAt CX X σ (E σ)) (I : Inv X pins σ H s) (r : Vals vs us) (rz : Vals zs ws) (h : sp (vs ++ zs) H Q (E σ)) : wpAny (model X.prog X.w) X.A (call (.ref f) us (ks.zip ws)) (EP X pins σ Q) X.xe s := by
  have r2 := r.append rz
  have hl : (us ++ ws).length = ps.length := by rw [← r2.length]; exact F.len _ _ _ _ h
  refine wpAny_call (codeAny_mono (F.run X.A X.stack s H ⟨us, ks.zip ws⟩ (us ++ ws) (vs ++ zs) Q (E σ) hr I.env0 (hb hl) r2 h) fun r s' hq => ?_)
  cases r with
  | error e => exact hx pins H s e s' I hq
  | ok fl =>
    cases fl with
    | ret u => exact I.after hq
    | next => exact False.elim hq
    | brk => exact False.elim hq
    | cont => exact False.elim hq
theorem callU_go {ms : List Bool} {F : List D → CO} {A : Nat → Addr} {σ : L2.St} {H H1 : Hp} {S : Addr → Prop} {ρ1 : Rho} {F1 : Fp} {rs : List R} {vs : List V} {g1 : List Addr} {Q : VK} (fit : Fit X Γ) (h1 : Go Γ A (ResR Γ.K) σ H S (callU ms F rs ρ1) Q) (e1 : EnvR Γ.K A σ H1 ρ1 F1) (st1 : Stp H S H1 (plus (fsS F1) g1)) (q1 : ResL Γ.K σ H1 F1 rs vs g1) :
    spF X.K X.mg ms F vs H1 Q (WE Γ.W σ) := by
  unfold callU at h1
  split at h1
  · rename_i hnd
    split at h1
    · rename_i ds hds
      refine ⟨ds, _, by rw [← fit.K]; exact call_ahead e1 q1 hnd hds, ?_⟩
      have st1' : Stp H S H1 (fsS F1) := st1.sub fun b q => .inl q
      cases hF : F ds with
      | no => rw [hF] at h1; exact h1
      | err c fs' os =>
        rw [hF] at h1
        intro C od H' G' lo hmc bk xr st
        rw [← fit.K] at bk xr
        rw [← fit.mg] at hmc
        obtain ⟨F2, e2, _, st2, _⟩ := call_behind (g := []) e1 q1 hnd hds lo bk (st.sub plus_nil)
        exact h1 C od H' F2 hmc e2 (st1'.trans (st2.sub fun b q => .inl q)) xr
      | ok res os =>
        rw [hF] at h1
        intro v H' g G' lo bk wv nd dj st
        rw [← fit.K] at bk wv
        obtain ⟨F2, e2, _, st2, sf⟩ := call_behind e1 q1 hnd hds lo bk st
        refine Go.ok h1 e2 (st1'.trans st2) ⟨wv, nd, fun a ha z => ?_⟩
        exact dj a ha (sf a ha z)
    · exact False.elim h1
  · exact False.elim h1
theorem vals_len {vs : List V} {us : List Value} (r : Vals vs us) : us.length = vs.length := r.length.symm
theorem fal_nil : ∀ (rs : List R) (ρ ρ' : Rho), faNil ρ = .ok rs ρ' → rs.length = 0 := fun rs ρ ρ' h => by
  unfold faNil at h; injection h with h _; rw [← h]; rfl
theorem fal_cons {f : FE} {fs : FA} {n : Nat} (h : ∀ (rs : List R) (ρ ρ' : Rho), fs ρ = .ok rs ρ' → rs.length = n) : ∀ (rs : List R) (ρ ρ' : Rho), faCons f fs ρ = .ok rs ρ' → rs.length = n + 1 := fun rs ρ ρ' e => by
  unfold faCons at e
  cases h1 : f ρ with
  | no => rw [h1] at e; cases e
  | err c q ρ1 => rw [h1] at e; cases e
  | ok r ρ1 =>
    rw [h1, Out.bind_ok] at e
    cases h2 : fs ρ1 with
    | no => rw [h2] at e; cases e
    | err c q ρ2 => rw [h2] at e; cases e
    | ok rs2 ρ2 =>
      rw [h2, Out.bind_ok] at e
      injection e with e _
      rw [← e, List.length_cons, h rs2 ρ1 ρ2 h2]
/-- f(e, .., k = v, ..): the names in their own order -/
theorem x_callKw {x : Str} {k j n : Nat} {ps : List Str} {ms : List Bool} {F : List D → CO} {e : Expr} {es : List Expr} {kws : List Keyword} {fs gs : FA} {p pos : Pos} (fit : Fit X Γ)
    (O : Own X.prog X.w X.K X.mg X.base k x ps ms F) (hr : Room j X.A) (hg : Gl X x) (ha : XA' X Γ (e :: es) fs) (hk : XK' X Γ kws gs) (hn : ∀ rs ρ ρ', fs ρ = .ok rs ρ' → rs.length = n) (hnp : n ≤ ps.length := by decide) (hj : k ≤ j := by decide) (hall : (backToKw pos (keywordEach kws X.env)).all (·.1.isSome) = true := by rfl) (hks : (backToKw pos (keywordEach kws X.env)).filterMap (·.1) = ps.drop n := by rfl)
    (hdb : (x == ("__debug__" : Str)) = false := by decide) (he : starEach (e :: es) X.env = (false, eval e X.env) :: starEach es X.env := by rfl) (hpl : ((backTo pos (starEach (e :: es) X.env)).any (·.1) || (backToKw pos (keywordEach kws X.env)).any (·.1.isNone)) = false := by rfl) :
    XE' X Γ (.Call (.Name x p) (e :: es) kws pos) (fCallU ms F (faApp fs gs)) := by
  obtain ⟨f, fd, h1, h2, h3, h4⟩ := O.ex
  refine ⟨fun pins s σ H Q I ⟨ρ, A, F0, e0, h⟩ => ?_⟩
  refine wpAny_Call_Name_kw (ld_glob I hg h2 ?_ hdb)
  refine PySem.W.callWith_KW (h₀ := X.base) I.ok.mod.kin h3 hall (thn (ha.run pos pins s σ H (fun vs H1 => vs.length = n ∧ tA Γ gs σ H1 fun zs H2 => spF X.K X.mg ms F (vs ++ zs) H2 Q (WE Γ.W σ)) I ⟨ρ, A, F0, e0, ?_⟩) fun us s1 ⟨vs, H1, I1, r, hvn, q⟩ => ?_) hpl he
  · unfold fCallU faApp at h
    cases hf : fs ρ with
    | no => rw [hf] at h; exact h
    | err c fs' ρ1 => rw [hf] at h; exact h
    | ok rs ρ1 =>
      rw [hf] at h
      intro vs H1 F1 g1 e1 st1 q1
      refine ⟨?_, ρ1, A, F1, e1, ?_⟩
      · rw [← hn rs ρ ρ1 hf]
        exact (q1.at_).1.symm
      · simp only [Out.bind_ok] at h
        cases hg' : gs ρ1 with
        | no => rw [hg'] at h; exact h
        | err c fs' ρ2 =>
          rw [hg'] at h
          exact fun C od H' F' hm e s x => h C od H' F' hm e ((st1.sub fun b q => .inl q).trans s) x
        | ok rs2 ρ2 =>
          rw [hg'] at h
          intro zs H2 F2 g2 e2 st2 q2
          obtain ⟨q1', dj⟩ := q1.stepL (F' := F2) e1 st2 fun a z => .inl z
          have h : Go Γ A (ResR Γ.K) σ H (fsS F0) (callU ms F (rs ++ rs2) ρ2) Q := h
          refine callU_go (g1 := g1 ++ g2) fit h e2 (st1.trans (st2.frame.sub fun b q => ?_)) (q1'.append q2 fun a ha z => dj a ha (.inr z))
          rcases q with q | q
          · exact .inl (.inl q)
          · rcases List.mem_append.mp q with q | q
            · exact .inr q
            · exact .inl (.inr q)
  · refine thn (hk.run pos pins s1 σ H1 _ I1 q) fun ws s2 ⟨zs, H2, I2, rz, q2⟩ => ⟨I2.kIn, ?_⟩
    rw [hks]
    have hl := vals_len r
    exact run_fnkS h1 (hr.mono hj) (fun hl' => h4 n s2 us ws hnp (hl.trans hvn) hl') (fit.exc σ) I2 r rz q2
/-- f(k = v, ..) -/
theorem x_callKw0 {x : Str} {k j : Nat} {ps : List Str} {ms : List Bool} {F : List D → CO} {kws : List Keyword} {gs : FA} {p pos : Pos} (fit : Fit X Γ)
    (O : Own X.prog X.w X.K X.mg X.base k x ps ms F) (hr : Room j X.A) (hg : Gl X x) (hk : XK' X Γ kws gs) (hj : k ≤ j := by decide) (hall : (backToKw pos (keywordEach kws X.env)).all (·.1.isSome) = true := by rfl) (hks : (backToKw pos (keywordEach kws X.env)).filterMap (·.1) = ps := by rfl)
    (hdb : (x == ("__debug__" : Str)) = false := by decide) (hpl : ((backTo pos (starEach [] X.env)).any (·.1) || (backToKw pos (keywordEach kws X.env)).any (·.1.isNone)) = false := by rfl) :
    XE' X Γ (.Call (.Name x p) [] kws pos) (fCallU ms F gs) := by
  obtain ⟨f, fd, h1, h2, h3, h4⟩ := O.ex
  refine ⟨fun pins s σ H Q I ⟨ρ, A, F0, e0, h⟩ => ?_⟩
  refine wpAny_Call_Name_kw (ld_glob I hg h2 ?_ hdb)
  refine PySem.W.callWith_KW0 (h₀ := X.base) I.ok.mod.kin h3 hall ?_ hpl
  refine thn (hk.run pos pins s σ H (fun zs H2 => spF X.K X.mg ms F zs H2 Q (WE Γ.W σ)) I ⟨ρ, A, F0, e0, Go.bind h Stp.refl fun rs ρ1 vs H1 F1 g1 _ e1 st1 q1 h1' => ?_⟩) fun ws s2 ⟨zs, H2, I2, rz, q2⟩ => ⟨I2.kIn, ?_⟩
  · exact callU_go fit h1' e1 st1 q1
  · rw [hks]
    have := run_fnkS (us := []) (ws := ws) (vs := []) (zs := zs) (ks := ps) h1 (hr.mono hj) (fun hl' => by
      have := h4 0 s2 [] ws (Nat.zero_le _) rfl hl'
      rw [List.drop_zero] at this
      exact this) (fit.exc σ) I2 .nil rz q2
    exact this
end
end EE

/-! layer E, part M: the rules in the printer's form -/
namespace EE
open PySem PySem.Spec
open PyProof.Rows hiding St
open L2
def BinR (X : Cx) (Γ : Ct) (op : Operator) (sem : D → D → Option D) : Prop := ∃ r, OpR X (binaryOp op) r ∧ ∀ v w H Q, rSem2 Γ.K sem v w H Q → r v w H Q
def CmpR (X : Cx) (Γ : Ct) (op : CmpOp) (sem : D → D → Option D) : Prop := ∃ r, OpR X (compareOp op) r ∧ ∀ v w H Q, rSem2 Γ.K sem v w H Q → r v w H Q
def BltR (X : Cx) (Γ : Ct) (id : String) (sem : List D → Option D) : Prop := ∃ r, CallR X (.builtin id) r ∧ ∀ v H Q, rSemL Γ.K sem v H Q → r v H Q
def TypR (X : Cx) (Γ : Ct) (id : String) (sem : List D → Option D) : Prop := ∃ r, CallR X (.type id) r ∧ ∀ v H Q, rSemL Γ.K sem v H Q → r v H Q
section
variable {X : Cx} {Γ : Ct}
theorem y_bin {op : Operator} {sem : D → D → Option D} {a b : Expr} {fa fb : FE} {pos : Pos} (h : BinR X Γ op sem) (ha : XE' X Γ a fa) (hb : XE' X Γ b fb) : XE' X Γ (.BinOp a op b pos) (fOp2 sem fa fb) := by
  obtain ⟨r, ho, hr⟩ := h
  exact x_bin ho hr ha hb
theorem y_cmp {op : CmpOp} {sem : D → D → Option D} {a b : Expr} {fa fb : FE} {pos : Pos} (h : CmpR X Γ op sem) (ha : XE' X Γ a fa) (hb : XE' X Γ b fb) (hm : behindInMarks op b = false := by first | exact nomark _ | rfl) : XE' X Γ (.Compare a [op] [b] pos) (fOp2 sem fa fb) := by
  obtain ⟨r, ho, hr⟩ := h
  exact x_cmp ho hr ha hb hm
theorem yt_cmp {op : CmpOp} {sem : D → D → Option D} {a b : Expr} {fa fb : FE} {pos : Pos} (h : CmpR X Γ op sem) (ha : XE' X Γ a fa) (hb : XE' X Γ b fb) (hm : behindInMarks op b = false := by first | exact nomark _ | rfl) : XT' X Γ (.Compare a [op] [b] pos) (fB (fOp2 sem fa fb)) := by
  obtain ⟨r, ho, hr⟩ := h
  exact xt_cmp ho hr ha hb hm
theorem y_blt {x : Str} {id : String} {sem : List D → Option D} {e : Expr} {es : List Expr} {fs : FA} {p pos : Pos} (h : BltR X Γ id sem) (hg : Gl X x) (hm : X.mg x = none) (ha : XA' X Γ (e :: es) fs) (hv : bootBuiltins x = some (.builtin id) := by decide +kernel)
    (hn : x ≠ "__name__" := by decide) (hdb : (x == ("__debug__" : Str)) = false := by decide)
    (he : starEach (e :: es) X.env = (false, eval e X.env) :: starEach es X.env := by rfl) (hpl : (backTo pos (starEach es X.env)).any (·.1) = false := by rfl) : XE' X Γ (.Call (.Name x p) (e :: es) [] pos) (fCall sem fs) := by
  obtain ⟨r, hc, hr⟩ := h
  exact x_callB hc hr hg hm hv ha hn hdb he hpl
theorem y_typ {x : Str} {id : String} {sem : List D → Option D} {e : Expr} {es : List Expr} {fs : FA} {p pos : Pos} (h : TypR X Γ id sem) (hg : Gl X x) (hm : X.mg x = none) (ha : XA' X Γ (e :: es) fs) (hv : bootBuiltins x = some (.type id) := by decide +kernel)
    (hn : x ≠ "__name__" := by decide) (hdb : (x == ("__debug__" : Str)) = false := by decide)
    (he : starEach (e :: es) X.env = (false, eval e X.env) :: starEach es X.env := by rfl) (hpl : (backTo pos (starEach es X.env)).any (·.1) = false := by rfl) : XE' X Γ (.Call (.Name x p) (e :: es) [] pos) (fCall sem fs) := by
  obtain ⟨r, hc, hr⟩ := h
  exact x_callTy hc hr hg hm hv ha hn hdb he hpl
def sOr : D → D → Option D := s2I fun i j => some (.int (Builtin.bitOr i j))
theorem r_or {K : PySem.W.Frag} (v w : V) (H : Hp) (Q : VK) (h : rSem2 K sOr v w H Q) : rI0 (fun i j => .int (Builtin.bitOr i j)) v w H Q := by
  obtain ⟨i, j, z, rfl, rfl, hz, q⟩ := rSem2_int h
  cases hz
  exact ⟨i, j, rfl, rfl, q.here (.int _)⟩
theorem b_add (f : Fit X Γ) : BinR X Γ .Add sAdd := ⟨_, op_addA, by rw [f.K]; exact r_add⟩
theorem b_sub (f : Fit X Γ) : BinR X Γ .Sub sSub := ⟨_, op_sub, by rw [f.K]; exact r_sub⟩
theorem b_mul (f : Fit X Γ) : BinR X Γ .Mult sMul := ⟨_, op_mul, by rw [f.K]; exact r_mul⟩
theorem b_mod (f : Fit X Γ) : BinR X Γ .Mod sMod := ⟨_, op_mod, by rw [f.K]; exact r_mod⟩
theorem b_div (f : Fit X Γ) : BinR X Γ .FloorDiv sDiv := ⟨_, op_fdiv, by rw [f.K]; exact r_div⟩
theorem b_pow (f : Fit X Γ) : BinR X Γ .Pow sPow := ⟨_, op_pow, by rw [f.K]; exact r_pow⟩
theorem b_shl (f : Fit X Γ) : BinR X Γ .LShift sShl := ⟨_, op_shl, by rw [f.K]; exact r_shl⟩
theorem b_shr (f : Fit X Γ) : BinR X Γ .RShift sShr := ⟨_, op_shr, by rw [f.K]; exact r_shr⟩
theorem b_and (f : Fit X Γ) : BinR X Γ .BitAnd sAnd := ⟨_, op_and, by rw [f.K]; exact r_and⟩
theorem b_or (f : Fit X Γ) : BinR X Γ .BitOr sOr := ⟨_, op_or, by rw [f.K]; exact r_or⟩
theorem c_lt (f : Fit X Γ) : CmpR X Γ .Lt sLt := ⟨_, op_lt, by rw [f.K]; exact r_lt⟩
theorem c_le (f : Fit X Γ) : CmpR X Γ .LtE sLe := ⟨_, op_le, by rw [f.K]; exact r_le⟩
theorem c_gt (f : Fit X Γ) : CmpR X Γ .Gt sGt := ⟨_, op_gt, by rw [f.K]; exact r_gt⟩
theorem c_ge (f : Fit X Γ) : CmpR X Γ .GtE sGe := ⟨_, op_ge, by rw [f.K]; exact r_ge⟩
theorem c_eq {k : Nat} (f : Fit X Γ) (hr : Room k X.A) : CmpR X Γ .Eq sEq := ⟨_, op_eqD hr.units, by rw [f.K]; exact r_eq⟩
theorem c_ne {k : Nat} (f : Fit X Γ) (hr : Room k X.A) : CmpR X Γ .NotEq sNe := ⟨_, op_neD hr.units, by rw [f.K]; exact r_ne⟩
theorem c_in {k : Nat} (f : Fit X Γ) (hr : Room k X.A) : CmpR X Γ .In (sIn false) := ⟨_, op_inA (hu65 hr), by rw [f.K]; exact r_in false⟩
theorem c_notIn {k : Nat} (f : Fit X Γ) (hr : Room k X.A) : CmpR X Γ .NotIn (sIn true) := ⟨_, op_notInA (hu65 hr), by rw [f.K]; exact r_in true⟩
theorem f_len (f : Fit X Γ) : BltR X Γ "len" sLen := ⟨_, call_len_seq, by rw [f.K]; exact r_len⟩
theorem f_abs (f : Fit X Γ) : BltR X Γ "abs" sAbs := ⟨_, call_abs, by rw [f.K]; exact r_abs⟩
theorem f_max2 (f : Fit X Γ) : BltR X Γ "max" sMax2 := ⟨_, call_max2 f.calm, by rw [f.K]; exact r_max2⟩
theorem f_min2 (f : Fit X Γ) : BltR X Γ "min" sMin2 := ⟨_, call_min2 f.calm, by rw [f.K]; exact r_min2⟩
theorem f_int (f : Fit X Γ) : TypR X Γ "int" sInt := ⟨_, call_int1, by rw [f.K]; exact r_int⟩
theorem f_tuple (f : Fit X Γ) : TypR X Γ "tuple" sTuple := ⟨_, call_tuple_of, by rw [f.K]; exact r_tuple⟩
theorem f_list (f : Fit X Γ) : TypR X Γ "list" sList := ⟨_, call_list_of, by rw [f.K]; exact r_list⟩
theorem y_ix (f : Fit X Γ) {a b : Expr} {fa fb : FE} {pos : Pos} (ha : XE' X Γ a fa) (hb : XE' X Γ b fb) (hs : PlainIx b := by exact fun _ _ => rfl) : XE' X Γ (.Subscript a b pos) (fOp2 sIx fa fb) := x_ix ix_A (by rw [f.K]; exact r_ix) ha hb hs
theorem y_neg {a : Expr} {fa : FE} {pos : Pos} (ha : XE' X Γ a fa) : XE' X Γ (.UnaryOp .USub a pos) (fOp1 sNeg fa) := x_un un_neg r_neg ha
def sIpA : D → D → Option D := s2I fun i j => some (.int (i + j))
def sIpS : D → D → Option D := s2I fun i j => some (.int (i - j))
theorem s2I_F {f : Int → Int → Option D} {a b z : D} (h : s2I f a b = some z) : a.isF = true := by
  unfold s2I at h
  split at h
  · rfl
  · cases h
theorem ip_of {f : Int → Int → Int} {K : PySem.W.Frag} (v w : V) (H : Hp) (Q : VK) (h : ∃ a b z g2, Fz K H v a ∧ Ow K H w b g2 ∧ s2I (fun i j => some (.int (f i j))) a b = some z ∧ PR K H z Q) : ipI f v w H Q := by
  obtain ⟨a, b, z, g2, w1, w2, hz, q⟩ := h
  unfold s2I at hz
  split at hz
  · cases hz
    exact ⟨_, _, (Ow.fz w1).int, w2.int, q.here (.int _)⟩
  · cases hz
theorem y_augA {i : Nat} {x : Str} {e : Expr} {f : FE} {pos' pos : Pos} (hN : X.N.Nodup) (hi : X.N[i]? = some x) (hx : Loc X.env.scope x) (he : XE' X Γ e f) (hf : X.fn x = true ∨ X.env.scope.names.lookup x = some .local := by first | exact .inl rfl | exact .inr rfl | assumption) :
    XS' X Γ (.AugAssign (.Name x pos') .Add e pos) (fAug sIpA i f) := s_aug hN hi hx he ip_add (fun v w H Q h => ip_of v w H Q h) (fun a b z h => s2I_F h) hf
theorem y_augS {i : Nat} {x : Str} {e : Expr} {f : FE} {pos' pos : Pos} (hN : X.N.Nodup) (hi : X.N[i]? = some x) (hx : Loc X.env.scope x) (he : XE' X Γ e f) (hf : X.fn x = true ∨ X.env.scope.names.lookup x = some .local := by first | exact .inl rfl | exact .inr rfl | assumption) :
    XS' X Γ (.AugAssign (.Name x pos') .Sub e pos) (fAug sIpS i f) := s_aug hN hi hx he ip_sub (fun v w H Q h => ip_of v w H Q h) (fun a b z h => s2I_F h) hf
end
end EE

/-! layer E, part S: sorted -/
namespace EE
open PySem PySem.Spec
open PyProof.Rows hiding St
open L2
open PySem.W (dataLe dataLt AllAlike Sortable)
def dLe (a b : D) : Bool := dataLe false toPy a b
def Srt (xs : List D) : Prop := AllAlike (xs.map toPy) ∧ Sortable (xs.map toPy) ∧ (∀ x ∈ xs, D.ok 60 x = true) ∧ xs.length ≤ sizeLine ∧ D.isFL xs = true
noncomputable instance (xs : List D) : Decidable (Srt xs) := Classical.propDecidable _
def lstOf (d : D) : Option (List D) := match d with
  | .nd (.lst _) xs => some xs
  | _ => none
noncomputable def sSorted (ds : List D) : Option D := match ds with
  | [d] => (match lstOf d with
    | some xs => if Srt xs then some (.nd (.lst true) (xs.mergeSort dLe)) else none
    | none => none)
  | _ => none
/-- sorted of a list that reads as data -/
def rSrt (K : PySem.W.Frag) : List V → Hp → VK → Prop := fun vs H Q => ∃ a us xs, vs = [.ref a] ∧ SqL K H a us ∧ us.length = xs.length ∧ (∀ (i : Nat) v d, us[i]? = some v → xs[i]? = some d → ∃ g, Ow K H v d g) ∧ Srt xs ∧
  ∀ p out, H p = none → out.length = xs.length → (∃ ps : List (V × D), ps.map (·.1) = out ∧ ps.map (·.2) = xs.mergeSort dLe ∧ ∀ q ∈ ps, ∃ i : Nat, us[i]? = some q.1 ∧ xs[i]? = some q.2) → Q (.ref p) (upd H p (.lst out))
theorem eachIs_zip {us : List V} {its : List Value} (r : Vals us its) : ∀ (xs : List D), us.length = xs.length → PySem.W.EachIs (fun (u : Value) (p : V × D) => RelV p.1 u) its (us.zip xs) := by
  induction r with
  | nil => intro xs h; cases xs with | nil => exact .nil | cons x xs => cases h
  | @cons v u us its q t ih =>
    intro xs h
    cases xs with
    | nil => cases h
    | cons x xs => exact .cons q (ih xs (by simpa using h))
theorem vals_each {its : List Value} {ps : List (V × D)} (h : PySem.W.EachIs (fun (u : Value) (p : V × D) => RelV p.1 u) its ps) : Vals (ps.map (·.1)) its := by
  induction h with
  | nil => exact .nil
  | cons q t ih => exact .cons q ih
theorem call_srt {X : Cx} {k : Nat} (hr : Room k X.A) : CallR X (.builtin "sorted") (rSrt X.K) := by
  intro pins s σ H vs us Q I rv h
  obtain ⟨a, ws, xs, rfl, hS, hl, kids, ⟨h1, h2, h3, h4, h5⟩, q⟩ := h
  obtain ⟨u, rfl, ru⟩ := rv.one
  cases ru
  obtain ⟨its, r, p, hlen⟩ := I.list hS
  have l1 := r.length
  let bs : List (V × D) := ws.zip xs
  have hb2 : bs.map (·.2) = xs := List.map_snd_zip (by omega)
  have hb1 : bs.map (·.1) = ws := List.map_fst_zip (by omega)
  have hbl : bs.length = xs.length := by rw [← hb2, List.length_map]
  let enc : V × D → PyData := fun p => toPy p.2
  have henc : bs.map enc = xs.map toPy := by rw [← hb2, List.map_map]; rfl
  have e1 : PySem.W.EachIs (fun (u : Value) (p : V × D) => RelV p.1 u) its bs := eachIs_zip r xs hl
  have er : PySem.W.EachIs (fun (u : Value) (p : V × D) => ∃ as, Reads s.heap u (enc p) as) its bs := by
    have key : ∀ (us : List V) (its : List Value) (xs : List D), Vals us its → us.length = xs.length → (∀ (i : Nat) v d, us[i]? = some v → xs[i]? = some d → ∃ g, Ow X.K H v d g) → (∀ x ∈ xs, D.ok 60 x = true) →
        PySem.W.EachIs (fun (u : Value) (p : V × D) => ∃ as, Reads s.heap u (enc p) as) its (us.zip xs) := by
      intro us its xs r
      induction r generalizing xs with
      | nil => intro h _ _; cases xs with | nil => exact .nil | cons x xs => cases h
      | @cons v u us its q t ih =>
        intro h kd ok
        cases xs with
        | nil => cases h
        | cons x xs =>
          obtain ⟨g, w⟩ := kd 0 v x rfl rfl
          exact .cons (Dp.reads I _ v u (w.dp x 60 v g (ok x List.mem_cons_self)) q) (ih xs (by simpa using h) (fun i v d e1 e2 => kd (i + 1) v d (by simpa using e1) (by simpa using e2)) fun y hy => ok y (List.mem_cons_of_mem _ hy))
    exact key ws its xs r hl kids h3
  have hpl : PlainL s.heap a its.toArray := p
  refine PySem.W.sorted_data (R := fun (u : Value) (p : V × D) => RelV p.1 u) (enc := enc) (bs := bs) hpl.isList e1 er (by rw [henc]; exact h1) (by rw [henc]; exact h2) (by rw [hbl]; exact h4) (fun b hb => ?_) fun out ho eo => ?_
  · have hx : b.2 ∈ xs := by rw [← hb2]; exact List.mem_map.mpr ⟨b, hb, rfl⟩
    have := (canLay_toPy b.2 60 (h3 _ hx)).2
    have := hr.un
    show X.A.units + 2 + (toPy b.2).depth < cLine
    omega
  · obtain ⟨ep, he'⟩ := PyProof.Rows.sortedAll_at s.heap its out.toArray
    have ve := vals_each eo
    let ps := bs.mergeSort (dataLe false enc)
    have hp2 : ps.map (·.2) = xs.mergeSort dLe := by
      show (bs.mergeSort (dataLe false enc)).map (·.2) = _
      have q := List.map_mergeSort (r := dataLe false enc) (s := dLe) (f := fun p : V × D => p.2) (l := bs) (fun a _ b _ => rfl)
      rw [hb2] at q
      exact q
    have hol : (ps.map (·.1)).length = xs.length := by
      show ((bs.mergeSort (dataLe false enc)).map (·.1)).length = _
      rw [List.length_map, List.length_mergeSort, hbl]
    have I' : Inv X pins σ (upd H (s.heap.objs.size + 1) (.lst (ps.map (·.1)))) { s with heap := sortedAll s.heap its out.toArray } :=
      I.laid (t' := s.toks) (fun _ _ => PyProof.Rows.sortedAll_old) (Nat.le_succ _) ⟨by rw [hol]; exact h4, out, ep, ve, he'⟩
    refine ⟨.ref (s.heap.objs.size + 1), _, I', (show RelV (.ref (s.heap.objs.size + 1)) (.ref (s.heap.objs.size + 1)) from rfl), q _ _ (I.hok.fresh (Nat.le_succ _)) hol ⟨ps, rfl, hp2, fun z hz => ?_⟩⟩
    have hz' : z ∈ bs := List.mem_mergeSort.mp hz
    obtain ⟨i, hi, ei⟩ := List.getElem_of_mem hz'
    have hi' : i < xs.length := by rw [← hbl]; exact hi
    refine ⟨i, ?_, ?_⟩
    · rw [← hb1, List.getElem?_map, List.getElem?_eq_getElem hi, ei]; rfl
    · rw [← hb2, List.getElem?_map, List.getElem?_eq_getElem hi, ei]; rfl
theorem r_sorted {K : PySem.W.Frag} (vs : List V) (H : Hp) (Q : VK) (h : rSemL K sSorted vs H Q) : rSrt K vs H Q := by
  obtain ⟨ds, z, hr, hz, q⟩ := h
  unfold sSorted at hz
  split at hz
  · rename_i d
    obtain ⟨v, g, rfl, w⟩ := hr.one
    split at hz
    · rename_i xs hxs
      split at hz
      · rename_i hs
        cases hz
        unfold lstOf at hxs
        split at hxs <;> cases hxs
        · obtain ⟨a, us, rfl, h1, h2, h3⟩ := w.lst
          refine ⟨a, us, xs, rfl, h1, h2, h3, hs, fun p out np hl ⟨ps, e1, e2, e3⟩ => ?_⟩
          refine q.newL np (by rw [hl, List.length_mergeSort]) fun i v d g1 g2 => ?_
          rw [← e1] at g1
          rw [← e2] at g2
          rw [List.getElem?_map] at g1 g2
          cases e : ps[i]? with
          | none => rw [e] at g1; cases g1
          | some z =>
            rw [e] at g1 g2
            cases g1; cases g2
            obtain ⟨j, j1, j2⟩ := e3 z (List.mem_of_getElem? e)
            exact kids_fz h3 hs.2.2.2.2 j _ _ j1 j2
      · cases hz
    · cases hz
  · cases hz
theorem f_sorted {X : Cx} {Γ : Ct} {k : Nat} (f : Fit X Γ) (hr : Room k X.A) : BltR X Γ "sorted" sSorted := ⟨_, call_srt hr, by rw [f.K]; exact r_sorted⟩
end EE

/-! layer E, part N: small helps for printed texts -/
namespace EE
open PySem PySem.Spec
open PyProof.Rows hiding St
open L2
theorem len_cons {α : Type} {l : List α} {n : Nat} (h : l.length = n + 1) : ∃ a r, l = a :: r ∧ r.length = n := by
  cases l with
  | nil => cases h
  | cons a r => exact ⟨a, r, rfl, Nat.succ.inj h⟩
theorem len_nil {α : Type} {l : List α} (h : l.length = 0) : l = [] := List.eq_nil_of_length_eq_zero h
theorem bindsE {K : PySem.W.Frag} {x qual : Str} {st : Stmt} {f : Addr} {fd : FuncData} {ps : List Str} (F : Fun K x qual st f fd)
    (h : ∀ (kV doc pm : Value) (an : Option Addr) (cdv ct : Value) (j : Nat) (us ws : List Value), j ≤ ps.length → us.length = j → (us ++ ws).length = ps.length → bindArgs (PySem.W.fnOf x qual (defArgs st) (defBody st) (defScope st) .none kV doc pm an cdv ct) ⟨us, (ps.drop j).zip ws⟩ = pure (ps.zip (us ++ ws))) :
    ∀ (j : Nat) (s : Shared) (us ws : List Value), j ≤ ps.length → us.length = j → (us ++ ws).length = ps.length → BindsTo s fd ⟨us, (ps.drop j).zip ws⟩ (ps.zip (us ++ ws)) := by
  obtain ⟨oc, od, kV, doc, pm, an, cdv, ct, osl, rfl, lk, hcd⟩ := F.ex
  exact fun j s us ws h1 h2 h3 => .of_eq (h kV doc pm an cdv ct j us ws h1 h2 h3)
theorem bs0 {B : Nat → List Value → List Value → Prop} (a0 : B 0 [] []) (j : Nat) (us ws : List Value) (h1 : us.length = j) (h2 : (us ++ ws).length = 0) : B j us ws := by
  subst h1
  match us, ws, h2 with
  | [], [], _ => exact a0
theorem bs1 {B : Nat → List Value → List Value → Prop} (a1 : ∀ u0 : Value, B 1 [u0] []) (a0 : ∀ u0 : Value, B 0 [] [u0]) (j : Nat) (us ws : List Value) (h1 : us.length = j) (h2 : (us ++ ws).length = 1) : B j us ws := by
  subst h1
  match us, ws, h2 with
  | [u0], [], _ => exact a1 u0
  | [], [u0], _ => exact a0 u0
theorem bs2 {B : Nat → List Value → List Value → Prop} (a2 : ∀ u0 u1 : Value, B 2 [u0, u1] []) (a1 : ∀ u0 u1 : Value, B 1 [u0] [u1]) (a0 : ∀ u0 u1 : Value, B 0 [] [u0, u1]) (j : Nat) (us ws : List Value) (h1 : us.length = j) (h2 : (us ++ ws).length = 2) : B j us ws := by
  subst h1
  match us, ws, h2 with
  | [u0, u1], [], _ => exact a2 u0 u1
  | [u0], [u1], _ => exact a1 u0 u1
  | [], [u0, u1], _ => exact a0 u0 u1
theorem bs3 {B : Nat → List Value → List Value → Prop} (a3 : ∀ u0 u1 u2 : Value, B 3 [u0, u1, u2] []) (a2 : ∀ u0 u1 u2 : Value, B 2 [u0, u1] [u2]) (a1 : ∀ u0 u1 u2 : Value, B 1 [u0] [u1, u2]) (a0 : ∀ u0 u1 u2 : Value, B 0 [] [u0, u1, u2]) (j : Nat) (us ws : List Value) (h1 : us.length = j) (h2 : (us ++ ws).length = 3) : B j us ws := by
  subst h1
  match us, ws, h2 with
  | [u0, u1, u2], [], _ => exact a3 u0 u1 u2
  | [u0, u1], [u2], _ => exact a2 u0 u1 u2
  | [u0], [u1, u2], _ => exact a1 u0 u1 u2
  | [], [u0, u1, u2], _ => exact a0 u0 u1 u2
theorem bs4 {B : Nat → List Value → List Value → Prop} (a4 : ∀ u0 u1 u2 u3 : Value, B 4 [u0, u1, u2, u3] []) (a3 : ∀ u0 u1 u2 u3 : Value, B 3 [u0, u1, u2] [u3]) (a2 : ∀ u0 u1 u2 u3 : Value, B 2 [u0, u1] [u2, u3]) (a1 : ∀ u0 u1 u2 u3 : Value, B 1 [u0] [u1, u2, u3]) (a0 : ∀ u0 u1 u2 u3 : Value, B 0 [] [u0, u1, u2, u3]) (j : Nat) (us ws : List Value) (h1 : us.length = j) (h2 : (us ++ ws).length = 4) : B j us ws := by
  subst h1
  match us, ws, h2 with
  | [u0, u1, u2, u3], [], _ => exact a4 u0 u1 u2 u3
  | [u0, u1, u2], [u3], _ => exact a3 u0 u1 u2 u3
  | [u0, u1], [u2, u3], _ => exact a2 u0 u1 u2 u3
  | [u0], [u1, u2, u3], _ => exact a1 u0 u1 u2 u3
  | [], [u0, u1, u2, u3], _ => exact a0 u0 u1 u2 u3
theorem bs5 {B : Nat → List Value → List Value → Prop} (a5 : ∀ u0 u1 u2 u3 u4 : Value, B 5 [u0, u1, u2, u3, u4] []) (a4 : ∀ u0 u1 u2 u3 u4 : Value, B 4 [u0, u1, u2, u3] [u4]) (a3 : ∀ u0 u1 u2 u3 u4 : Value, B 3 [u0, u1, u2] [u3, u4]) (a2 : ∀ u0 u1 u2 u3 u4 : Value, B 2 [u0, u1] [u2, u3, u4]) (a1 : ∀ u0 u1 u2 u3 u4 : Value, B 1 [u0] [u1, u2, u3, u4]) (a0 : ∀ u0 u1 u2 u3 u4 : Value, B 0 [] [u0, u1, u2, u3, u4]) (j : Nat) (us ws : List Value) (h1 : us.length = j) (h2 : (us ++ ws).length = 5) : B j us ws := by
  subst h1
  match us, ws, h2 with
  | [u0, u1, u2, u3, u4], [], _ => exact a5 u0 u1 u2 u3 u4
  | [u0, u1, u2, u3], [u4], _ => exact a4 u0 u1 u2 u3 u4
  | [u0, u1, u2], [u3, u4], _ => exact a3 u0 u1 u2 u3 u4
  | [u0, u1], [u2, u3, u4], _ => exact a2 u0 u1 u2 u3 u4
  | [u0], [u1, u2, u3, u4], _ => exact a1 u0 u1 u2 u3 u4
  | [], [u0, u1, u2, u3, u4], _ => exact a0 u0 u1 u2 u3 u4
theorem bs6 {B : Nat → List Value → List Value → Prop} (a6 : ∀ u0 u1 u2 u3 u4 u5 : Value, B 6 [u0, u1, u2, u3, u4, u5] []) (a5 : ∀ u0 u1 u2 u3 u4 u5 : Value, B 5 [u0, u1, u2, u3, u4] [u5]) (a4 : ∀ u0 u1 u2 u3 u4 u5 : Value, B 4 [u0, u1, u2, u3] [u4, u5]) (a3 : ∀ u0 u1 u2 u3 u4 u5 : Value, B 3 [u0, u1, u2] [u3, u4, u5]) (a2 : ∀ u0 u1 u2 u3 u4 u5 : Value, B 2 [u0, u1] [u2, u3, u4, u5]) (a1 : ∀ u0 u1 u2 u3 u4 u5 : Value, B 1 [u0] [u1, u2, u3, u4, u5]) (a0 : ∀ u0 u1 u2 u3 u4 u5 : Value, B 0 [] [u0, u1, u2, u3, u4, u5]) (j : Nat) (us ws : List Value) (h1 : us.length = j) (h2 : (us ++ ws).length = 6) : B j us ws := by
  subst h1
  match us, ws, h2 with
  | [u0, u1, u2, u3, u4, u5], [], _ => exact a6 u0 u1 u2 u3 u4 u5
  | [u0, u1, u2, u3, u4], [u5], _ => exact a5 u0 u1 u2 u3 u4 u5
  | [u0, u1, u2, u3], [u4, u5], _ => exact a4 u0 u1 u2 u3 u4 u5
  | [u0, u1, u2], [u3, u4, u5], _ => exact a3 u0 u1 u2 u3 u4 u5
  | [u0, u1], [u2, u3, u4, u5], _ => exact a2 u0 u1 u2 u3 u4 u5
  | [u0], [u1, u2, u3, u4, u5], _ => exact a1 u0 u1 u2 u3 u4 u5
  | [], [u0, u1, u2, u3, u4, u5], _ => exact a0 u0 u1 u2 u3 u4 u5
theorem bs7 {B : Nat → List Value → List Value → Prop} (a7 : ∀ u0 u1 u2 u3 u4 u5 u6 : Value, B 7 [u0, u1, u2, u3, u4, u5, u6] []) (a6 : ∀ u0 u1 u2 u3 u4 u5 u6 : Value, B 6 [u0, u1, u2, u3, u4, u5] [u6]) (a5 : ∀ u0 u1 u2 u3 u4 u5 u6 : Value, B 5 [u0, u1, u2, u3, u4] [u5, u6]) (a4 : ∀ u0 u1 u2 u3 u4 u5 u6 : Value, B 4 [u0, u1, u2, u3] [u4, u5, u6]) (a3 : ∀ u0 u1 u2 u3 u4 u5 u6 : Value, B 3 [u0, u1, u2] [u3, u4, u5, u6]) (a2 : ∀ u0 u1 u2 u3 u4 u5 u6 : Value, B 2 [u0, u1] [u2, u3, u4, u5, u6]) (a1 : ∀ u0 u1 u2 u3 u4 u5 u6 : Value, B 1 [u0] [u1, u2, u3, u4, u5, u6]) (a0 : ∀ u0 u1 u2 u3 u4 u5 u6 : Value, B 0 [] [u0, u1, u2, u3, u4, u5, u6]) (j : Nat) (us ws : List Value) (h1 : us.length = j) (h2 : (us ++ ws).length = 7) : B j us ws := by
  subst h1
  match us, ws, h2 with
  | [u0, u1, u2, u3, u4, u5, u6], [], _ => exact a7 u0 u1 u2 u3 u4 u5 u6
  | [u0, u1, u2, u3, u4, u5], [u6], _ => exact a6 u0 u1 u2 u3 u4 u5 u6
  | [u0, u1, u2, u3, u4], [u5, u6], _ => exact a5 u0 u1 u2 u3 u4 u5 u6
  | [u0, u1, u2, u3], [u4, u5, u6], _ => exact a4 u0 u1 u2 u3 u4 u5 u6
  | [u0, u1, u2], [u3, u4, u5, u6], _ => exact a3 u0 u1 u2 u3 u4 u5 u6
  | [u0, u1], [u2, u3, u4, u5, u6], _ => exact a2 u0 u1 u2 u3 u4 u5 u6
  | [u0], [u1, u2, u3, u4, u5, u6], _ => exact a1 u0 u1 u2 u3 u4 u5 u6
  | [], [u0, u1, u2, u3, u4, u5, u6], _ => exact a0 u0 u1 u2 u3 u4 u5 u6
theorem bs8 {B : Nat → List Value → List Value → Prop} (a8 : ∀ u0 u1 u2 u3 u4 u5 u6 u7 : Value, B 8 [u0, u1, u2, u3, u4, u5, u6, u7] []) (a7 : ∀ u0 u1 u2 u3 u4 u5 u6 u7 : Value, B 7 [u0, u1, u2, u3, u4, u5, u6] [u7]) (a6 : ∀ u0 u1 u2 u3 u4 u5 u6 u7 : Value, B 6 [u0, u1, u2, u3, u4, u5] [u6, u7]) (a5 : ∀ u0 u1 u2 u3 u4 u5 u6 u7 : Value, B 5 [u0, u1, u2, u3, u4] [u5, u6, u7]) (a4 : ∀ u0 u1 u2 u3 u4 u5 u6 u7 : Value, B 4 [u0, u1, u2, u3] [u4, u5, u6, u7]) (a3 : ∀ u0 u1 u2 u3 u4 u5 u6 u7 : Value, B 3 [u0, u1, u2] [u3, u4, u5, u6, u7]) (a2 : ∀ u0 u1 u2 u3 u4 u5 u6 u7 : Value, B 2 [u0, u1] [u2, u3, u4, u5, u6, u7]) (a1 : ∀ u0 u1 u2 u3 u4 u5 u6 u7 : Value, B 1 [u0] [u1, u2, u3, u4, u5, u6, u7]) (a0 : ∀ u0 u1 u2 u3 u4 u5 u6 u7 : Value, B 0 [] [u0, u1, u2, u3, u4, u5, u6, u7]) (j : Nat) (us ws : List Value) (h1 : us.length = j) (h2 : (us ++ ws).length = 8) : B j us ws := by
  subst h1
  match us, ws, h2 with
  | [u0, u1, u2, u3, u4, u5, u6, u7], [], _ => exact a8 u0 u1 u2 u3 u4 u5 u6 u7
  | [u0, u1, u2, u3, u4, u5, u6], [u7], _ => exact a7 u0 u1 u2 u3 u4 u5 u6 u7
  | [u0, u1, u2, u3, u4, u5], [u6, u7], _ => exact a6 u0 u1 u2 u3 u4 u5 u6 u7
  | [u0, u1, u2, u3, u4], [u5, u6, u7], _ => exact a5 u0 u1 u2 u3 u4 u5 u6 u7
  | [u0, u1, u2, u3], [u4, u5, u6, u7], _ => exact a4 u0 u1 u2 u3 u4 u5 u6 u7
  | [u0, u1, u2], [u3, u4, u5, u6, u7], _ => exact a3 u0 u1 u2 u3 u4 u5 u6 u7
  | [u0, u1], [u2, u3, u4, u5, u6, u7], _ => exact a2 u0 u1 u2 u3 u4 u5 u6 u7
  | [u0], [u1, u2, u3, u4, u5, u6, u7], _ => exact a1 u0 u1 u2 u3 u4 u5 u6 u7
  | [], [u0, u1, u2, u3, u4, u5, u6, u7], _ => exact a0 u0 u1 u2 u3 u4 u5 u6 u7
theorem bs9 {B : Nat → List Value → List Value → Prop} (a9 : ∀ u0 u1 u2 u3 u4 u5 u6 u7 u8 : Value, B 9 [u0, u1, u2, u3, u4, u5, u6, u7, u8] []) (a8 : ∀ u0 u1 u2 u3 u4 u5 u6 u7 u8 : Value, B 8 [u0, u1, u2, u3, u4, u5, u6, u7] [u8]) (a7 : ∀ u0 u1 u2 u3 u4 u5 u6 u7 u8 : Value, B 7 [u0, u1, u2, u3, u4, u5, u6] [u7, u8]) (a6 : ∀ u0 u1 u2 u3 u4 u5 u6 u7 u8 : Value, B 6 [u0, u1, u2, u3, u4, u5] [u6, u7, u8]) (a5 : ∀ u0 u1 u2 u3 u4 u5 u6 u7 u8 : Value, B 5 [u0, u1, u2, u3, u4] [u5, u6, u7, u8]) (a4 : ∀ u0 u1 u2 u3 u4 u5 u6 u7 u8 : Value, B 4 [u0, u1, u2, u3] [u4, u5, u6, u7, u8]) (a3 : ∀ u0 u1 u2 u3 u4 u5 u6 u7 u8 : Value, B 3 [u0, u1, u2] [u3, u4, u5, u6, u7, u8]) (a2 : ∀ u0 u1 u2 u3 u4 u5 u6 u7 u8 : Value, B 2 [u0, u1] [u2, u3, u4, u5, u6, u7, u8]) (a1 : ∀ u0 u1 u2 u3 u4 u5 u6 u7 u8 : Value, B 1 [u0] [u1, u2, u3, u4, u5, u6, u7, u8]) (a0 : ∀ u0 u1 u2 u3 u4 u5 u6 u7 u8 : Value, B 0 [] [u0, u1, u2, u3, u4, u5, u6, u7, u8]) (j : Nat) (us ws : List Value) (h1 : us.length = j) (h2 : (us ++ ws).length = 9) : B j us ws := by
  subst h1
  match us, ws, h2 with
  | [u0, u1, u2, u3, u4, u5, u6, u7, u8], [], _ => exact a9 u0 u1 u2 u3 u4 u5 u6 u7 u8
  | [u0, u1, u2, u3, u4, u5, u6, u7], [u8], _ => exact a8 u0 u1 u2 u3 u4 u5 u6 u7 u8
  | [u0, u1, u2, u3, u4, u5, u6], [u7, u8], _ => exact a7 u0 u1 u2 u3 u4 u5 u6 u7 u8
  | [u0, u1, u2, u3, u4, u5], [u6, u7, u8], _ => exact a6 u0 u1 u2 u3 u4 u5 u6 u7 u8
  | [u0, u1, u2, u3, u4], [u5, u6, u7, u8], _ => exact a5 u0 u1 u2 u3 u4 u5 u6 u7 u8
  | [u0, u1, u2, u3], [u4, u5, u6, u7, u8], _ => exact a4 u0 u1 u2 u3 u4 u5 u6 u7 u8
  | [u0, u1, u2], [u3, u4, u5, u6, u7, u8], _ => exact a3 u0 u1 u2 u3 u4 u5 u6 u7 u8
  | [u0, u1], [u2, u3, u4, u5, u6, u7, u8], _ => exact a2 u0 u1 u2 u3 u4 u5 u6 u7 u8
  | [u0], [u1, u2, u3, u4, u5, u6, u7, u8], _ => exact a1 u0 u1 u2 u3 u4 u5 u6 u7 u8
  | [], [u0, u1, u2, u3, u4, u5, u6, u7, u8], _ => exact a0 u0 u1 u2 u3 u4 u5 u6 u7 u8
end EE

/-! layer E, part P: the law's own end -/
namespace EE
open PySem PySem.Spec
open PyProof.Rows hiding St
open L2
/-- the script as data -/
def scr (ns : List Int) : D := .nd (.lst false) (ns.map D.int)
/-- what walk_of asks of the law's def -/
def spL (K : PySem.W.Frag) : Sp := fun vs H Q _ => ∃ (a : Addr) (ns : List Int), vs = [.ref a] ∧ SqZ K H a (ns.map V.int) ∧ ns.length ≤ 63 ∧ ∀ H', Q (.bl true) H'
theorem spL_of {K : PySem.W.Frag} {mg : Str → Option Value} {F : List D → CO} (h : ∀ ns : List Int, ns.length ≤ 63 → ∃ os, os.length = 1 ∧ F [scr ns] = .ok (.bl true) os) (vs : List V) (H : Hp) (Q : VK) (E : XK) (q : spL K vs H Q E) : spF K mg [false] F vs H Q E := by
  obtain ⟨a, ns, rfl, hS, hl, hQ⟩ := q
  obtain ⟨os, lo, hF⟩ := h ns hl
  have w : Fz K H (.ref a) (scr ns) := by
    refine .nd (k := .lst false) hS (by simp) fun i v d e1 e2 => ?_
    rw [List.getElem?_map] at e1 e2
    cases e : ns[i]? with
    | none => rw [e] at e1; cases e1
    | some n => rw [e] at e1 e2; cases e1; cases e2; exact .int n
  refine ⟨[scr ns], fun _ => [], ⟨rfl, rfl, fun i v d e1 e2 => ?_, fun i e => ?_, fun i => List.nodup_nil, fun i j b hb => (nomatch hb), fun i _ => rfl⟩, ?_⟩
  · match i with
    | 0 => cases e1; cases e2; exact .fz w
    | i + 1 => simp at e1
  · match i with
    | 0 => cases e
    | i + 1 => simp at e
  · rw [hF]
    intro v H' g G' _ _ wv _ _ _
    rw [wv.bl]
    exact hQ H'
theorem sqZ_of {K : PySem.W.Frag} {H : Hp} {a : Addr} {vs : List V} (h : SqL K H a vs) (o : Only H) : SqZ K H a vs := by
  rcases h with (h | ⟨ob, h⟩) | h
  · rcases o a with e | ⟨ob, xs, e⟩
    · rw [h] at e; cases e
    · rw [h] at e; cases e
  · exact .inl ⟨ob, h⟩
  · exact .inr h
theorem cx_no {P : Program} {w : World} {H : Hp} {s s' : Shared} {e : Value} (h : L2.CX P w [] H s (fun _ _ _ => False) e s') : False := by
  obtain ⟨_, _, _, _, _, _, _, _, _, _, _, _, z⟩ := h
  exact z
end EE

/-! layer E, part Q: reckoning the semantics -/
namespace EE
open PySem PySem.Spec
open PyProof.Rows hiding St
open L2
theorem seqOf_tup (xs : List D) : seqOf (.nd .tup xs) = some xs := rfl
theorem seqOf_lst (o : Bool) (xs : List D) : seqOf (.nd (.lst o) xs) = some xs := rfl
theorem okI (n : Nat) (i : Int) : D.ok n (.int i) = true := by cases n <;> rfl
theorem sEqI (i j : Int) : sEq (.int i) (.int j) = some (.bl (i == j)) := rfl
theorem sNeI (i j : Int) : sNe (.int i) (.int j) = some (.bl (!(i == j))) := rfl
theorem sEqS (a b : Str) (c : Bool) (h1 : PyData.strOk a = true) (h2 : PyData.strOk b = true) (h3 : (a == b) = c) : sEq (.str a) (.str b) = some (.bl c) := by
  unfold sEq
  rw [if_pos ⟨show PyData.strOk a = true from h1, show PyData.strOk b = true from h2⟩, ← h3]; rfl
theorem runF_def (ms : List Bool) (n : Nat) (B : FS) (ds : List D) : runF ms n B ds = (match B (rho0 ms ds n) with
  | .ok .nx ρ => (match lent ms ρ with | some os => .ok .non os | none => .no)
  | .ok (.rt d) ρ => (match lent ms ρ with | some os => .ok d os | none => .no)
  | .err c fs ρ => (match lent ms ρ with | some os => .err c fs os | none => .no)
  | _ => .no) := rfl
theorem sl0 : 0 < sizeLine := by decide
theorem sl1 : 1 ≤ sizeLine := by decide
theorem sl2 : 2 ≤ sizeLine := by decide
theorem sl3 : 3 ≤ sizeLine := by decide
theorem sl4 : 4 ≤ sizeLine := by decide
theorem kb1 : kitB "tuple" "bool" = some false := by decide +kernel
theorem kb2 : kitB "tuple" "tuple" = some true := by decide +kernel
theorem kb3 : kitB "bool" "bool" = some true := by decide +kernel
theorem kb4 : kitB "int" "bool" = some false := by decide +kernel
theorem kb5 : kitB "str" "bool" = some false := by decide +kernel
theorem kb6 : kitB "int" "tuple" = some false := by decide +kernel
theorem kb7 : kitB "str" "tuple" = some false := by decide +kernel
theorem kb8 : kitB "str" "str" = some true := by decide +kernel
theorem kb9 : kitB "int" "str" = some false := by decide +kernel
theorem kb10 : kitB "int" "int" = some true := by decide +kernel
theorem snoc_cases : ∀ S : List D, S = [] ∨ ∃ S' x, S = S' ++ [x]
  | [] => .inl rfl
  | x :: S => by
    rcases snoc_cases S with rfl | ⟨S', y, rfl⟩
    · exact .inr ⟨[], x, rfl⟩
    · exact .inr ⟨x :: S', y, rfl⟩
theorem eqbL_nil : ∀ xs : List D, D.eqbL xs [] = xs.isEmpty
  | [] => rfl
  | _ :: _ => rfl
theorem pw18 : sPow (.int 10) (.int 18) = some (.int 1000000000000000000) := by
  unfold sPow s2I
  show (if _ then _ else _) = _
  rw [if_pos (show CPow 10 18 from ⟨by decide, by decide, by decide⟩)]
  have : (10 : Int) ^ (Int.toNat 18) = 1000000000000000000 := by decide +kernel
  rw [this]
theorem sm_of {j : Int} (h1 : -1000000000 ≤ j) (h2 : j ≤ 1000000000) : Sm j := ⟨Int.le_trans (by decide) h1, Int.lt_of_le_of_lt h2 (by decide)⟩
theorem upTo_iL (lo : Int) (n : Nat) : ∃ ns : List Int, EE.upTo lo n = ns.map D.int ∧ ns.length = n := ⟨(List.range n).map fun i => (lo + (i : Nat) : Int), by unfold EE.upTo; rw [List.map_map]; rfl, by simp⟩
/-- lists of ints -/
abbrev iL (l : List Int) : List D := l.map D.int
theorem iL_F (l : List Int) : D.isFL (iL l) = true := D.isFL_iff.mpr fun x hx => by
  obtain ⟨n, _, rfl⟩ := List.mem_map.mp hx; rfl
theorem at_int {l : List Int} {i : Nat} (h : i < l.length) : l[i]? = some (l.getD i 0) := by
  rw [List.getD_eq_getElem?_getD, List.getElem?_eq_getElem h]; rfl
theorem at_mem {l : List Int} {i : Nat} (h : i < l.length) : l.getD i 0 ∈ l := by
  rw [List.getD_eq_getElem?_getD, List.getElem?_eq_getElem h]; exact List.getElem_mem h
abbrev bx (a b : Int) : D := .nd (.lst true) [.int a, .int b]
/-! ### loops -/
theorem forL_inv {G : FG} {B : FS} (I : Nat → Rho → Prop) : ∀ (items : List D) (n : Nat) (ρ : Rho), (∀ (i : Nat) (d : D) (ρ : Rho), items[i]? = some d → I (n + i) ρ → ∃ ρ1 ρ2 f, G d ρ = .ok () ρ1 ∧ B ρ1 = .ok f ρ2 ∧ (f = .nx ∨ f = .ct) ∧ I (n + i + 1) ρ2) → I n ρ → ∃ ρ', forL G B items ρ = .ok .nx ρ' ∧ I (n + items.length) ρ'
  | [], n, ρ, _, h => ⟨ρ, rfl, h⟩
  | d :: ds, n, ρ, hs, h => by
    obtain ⟨ρ1, ρ2, f, e1, e2, hf, h2⟩ := hs 0 d ρ rfl h
    have ih := forL_inv I ds (n + 1) ρ2 (fun i x ρ' hx hi => by
      have := hs (i + 1) x ρ' hx (by rw [show n + (i + 1) = n + 1 + i by omega]; exact hi)
      rw [show n + (i + 1) + 1 = n + 1 + i + 1 by omega] at this
      exact this) h2
    obtain ⟨ρ', e3, h3⟩ := ih
    refine ⟨ρ', ?_, by rw [List.length_cons, show n + (ds.length + 1) = n + 1 + ds.length by omega]; exact h3⟩
    rw [forL, e1]
    simp only
    rw [e2]
    rcases hf with rfl | rfl <;> exact e3
theorem lcL_inv {G : FG} {T : FT} {E : FE} {own : List Nat} (I : Nat → Rho → List D → Prop) : ∀ (items : List D) (n : Nat) (acc : List D) (ρ : Rho), (∀ (i : Nat) (d : D) (ρ : Rho) (acc : List D), items[i]? = some d → I (n + i) ρ acc → ∃ ρ1, G d ρ = .ok () ρ1 ∧
      ((∃ ρ2 y ρ3, T ρ1 = .ok true ρ2 ∧ E ρ2 = .ok (.val y) ρ3 ∧ acc.length < sizeLine ∧ I (n + i + 1) (wipeR ρ3 own) (acc ++ [y])) ∨ (∃ ρ2, T ρ1 = .ok false ρ2 ∧ I (n + i + 1) (wipeR ρ2 own) acc))) → I n ρ acc →
      ∃ ρ' acc', lcL G T E own items acc ρ = .ok acc' ρ' ∧ I (n + items.length) ρ' acc'
  | [], n, acc, ρ, _, h => ⟨ρ, acc, rfl, h⟩
  | d :: ds, n, acc, ρ, hs, h => by
    have go : ∀ ρ2 acc2, I (n + 1) ρ2 acc2 → ∃ ρ' acc', lcL G T E own ds acc2 ρ2 = .ok acc' ρ' ∧ I (n + (d :: ds).length) ρ' acc' := fun ρ2 acc2 h2 => by
      have ih := lcL_inv I ds (n + 1) acc2 ρ2 (fun i x ρ' acc' hx hi => by
        have := hs (i + 1) x ρ' acc' hx (by rw [show n + (i + 1) = n + 1 + i by omega]; exact hi)
        rw [show n + (i + 1) + 1 = n + 1 + i + 1 by omega] at this
        exact this) h2
      rw [List.length_cons, show n + (ds.length + 1) = n + 1 + ds.length by omega]
      exact ih
    obtain ⟨ρ1, e1, h1⟩ := hs 0 d ρ acc rfl h
    rcases h1 with ⟨ρ2, y, ρ3, e2, e3, hl, h2⟩ | ⟨ρ2, e2, h2⟩
    · obtain ⟨ρ', acc', e4, h4⟩ := go _ _ h2
      refine ⟨ρ', acc', ?_, h4⟩
      rw [lcL, e1]; simp only; rw [e2]; simp only; rw [e3]; simp only; rw [if_pos hl]; exact e4
    · obtain ⟨ρ', acc', e4, h4⟩ := go _ _ h2
      refine ⟨ρ', acc', ?_, h4⟩
      rw [lcL, e1]; simp only; rw [e2]; exact e4
theorem upTo_len (lo : Int) (n : Nat) : (upTo lo n).length = n := by simp [upTo]
theorem upTo_at {lo : Int} {n i : Nat} {d : D} (h : (upTo lo n)[i]? = some d) : i < n ∧ d = .int (lo + (i : Nat)) := by
  unfold upTo at h
  rw [List.getElem?_map] at h
  by_cases hi : i < n
  · rw [List.getElem?_range hi] at h
    cases h
    exact ⟨hi, rfl⟩
  · rw [List.getElem?_eq_none (by simp; omega)] at h
    cases h
/-! ### plain data: nothing but tuples, ints, truths, None, texts -/
def D.tp : Nat → D → Bool
  | n + 1, .nd k xs => (match k with | .tup => true | _ => false) && xs.all (D.tp n)
  | 0, .nd _ _ => false
  | _, .str x => PyData.strOk x
  | _, _ => true
mutual
def D.sz : D → Nat
  | .nd _ xs => 1 + D.szL xs
  | .non => 1
  | .bl _ => 1
  | .int _ => 1
  | .str _ => 1
def D.szL : List D → Nat
  | [] => 0
  | x :: xs => D.sz x + D.szL xs
end
theorem D.szL_append : ∀ xs ys : List D, D.szL (xs ++ ys) = D.szL xs + D.szL ys
  | [], ys => by simp [D.szL]
  | x :: xs, ys => by simp [D.szL, D.szL_append xs ys]; omega
theorem D.tp_ok : ∀ {n : Nat} {d : D}, D.tp n d = true → D.ok n d = true
  | 0, .nd _ _, h => by simp [D.tp] at h
  | n + 1, .nd k xs, h => by
    simp only [D.tp, Bool.and_eq_true, List.all_eq_true] at h
    simp only [D.ok, Bool.and_eq_true, List.all_eq_true]
    refine ⟨?_, fun x hx => D.tp_ok (h.2 x hx)⟩
    cases k <;> simp_all [kOk]
  | n, .non, _ => by cases n <;> rfl
  | n, .bl _, _ => by cases n <;> rfl
  | n, .int _, _ => by cases n <;> rfl
  | n, .str x, h => by cases n <;> exact h
theorem D.tp_F : ∀ {n : Nat} {d : D}, D.tp n d = true → D.isF d = true
  | 0, .nd _ _, h => by simp [D.tp] at h
  | n + 1, .nd k xs, h => by
    simp only [D.tp, Bool.and_eq_true, List.all_eq_true] at h
    show (k.isF && D.isFL xs) = true
    rw [D.isFL_iff.mpr fun x hx => D.tp_F (h.2 x hx), Bool.and_true]
    cases k <;> simp_all [Kd.isF]
  | n, .non, _ => rfl
  | n, .bl _, _ => rfl
  | n, .int _, _ => rfl
  | n, .str x, h => rfl
theorem D.tp_mono : ∀ {n m : Nat} {d : D}, D.tp n d = true → n ≤ m → D.tp m d = true
  | 0, m, .nd _ _, h, _ => by simp [D.tp] at h
  | n + 1, 0, .nd _ _, _, hm => absurd hm (by omega)
  | n + 1, m + 1, .nd k xs, h, hm => by
    simp only [D.tp, Bool.and_eq_true, List.all_eq_true] at h ⊢
    exact ⟨h.1, fun x hx => D.tp_mono (h.2 x hx) (by omega)⟩
  | n, m, .non, _, _ => by cases m <;> rfl
  | n, m, .bl _, _, _ => by cases m <;> rfl
  | n, m, .int _, _, _ => by cases m <;> rfl
  | n, m, .str x, h, _ => by
    have h : PyData.strOk x = true := by cases n <;> exact h
    cases m <;> exact h
theorem zp_self (xs : List D) : zp xs xs = xs.map fun x => .nd .tup [x, x] := by
  unfold zp
  induction xs with
  | nil => rfl
  | cons x xs ih => simp [ih]
mutual
theorem D.eqb_refl : ∀ (n : Nat) (d : D), D.tp n d = true → D.eqb d d = true
  | n, .nd k xs, h => by
    cases n with
    | zero => simp [D.tp] at h
    | succ n =>
      simp only [D.tp, Bool.and_eq_true, List.all_eq_true] at h
      cases k with
      | tup => show (true && D.eqbL xs xs) = true; rw [D.eqbL_refl n xs h.2]; rfl
      | lst o => simp at h
      | dic o ks => simp at h
  | n, .non, _ => rfl
  | n, .bl b, _ => by simp [D.eqb]
  | n, .int i, _ => by simp [D.eqb]
  | n, .str x, _ => by simp [D.eqb]
theorem D.eqbL_refl : ∀ (n : Nat) (xs : List D), (∀ x ∈ xs, D.tp n x = true) → D.eqbL xs xs = true
  | n, [], _ => rfl
  | n, x :: xs, h => by
    show (D.eqb x x && D.eqbL xs xs) = true
    rw [D.eqb_refl n x (h x List.mem_cons_self), D.eqbL_refl n xs fun y hy => h y (List.mem_cons_of_mem _ hy)]; rfl
end
end EE

namespace K00
open PySem PySem.Spec
open PyProof.Rows hiding St
open L2 EE

def topS (i : Nat) : Stmt := PySem.Challenge.pw_nonelearns_k00_short_trails.main.body.getD i (.Pass ⟨0, 0, 0, 0⟩)
structure Zs (mg : Str → Option Value) : Prop where
  abs_ : mg "abs" = none
  bool_ : mg "bool" = none
  int_ : mg "int" = none
  isinstance_ : mg "isinstance" = none
  len_ : mg "len" = none
  list_ : mg "list" = none
  max_ : mg "max" = none
  min_ : mg "min" = none
  range_ : mg "range" = none
  sorted_ : mg "sorted" = none
  str_ : mg "str" = none
  tuple_ : mg "tuple" = none
  zip_ : mg "zip" = none
noncomputable section
variable {P : Program} {w : World} {K : PySem.W.Frag} {mg : Str → Option Value} {base : Heap}
abbrev s_spoken_to : Stmt := topS 1
theorem sc_spoken_to : FnScope ["net", "house", "one", "two"] ["net", "house"] (defScope s_spoken_to) := ⟨rfl, rfl, rfl, by decide +kernel, rfl, by decide +kernel, by decide +kernel⟩
def b_spoken_to_1 : FE := (fOwn (fName 3))
theorem b_spoken_to_1_eq : b_spoken_to_1 = (fOwn (fName 3)) := rfl
def b_spoken_to_2 : FT := (fB (fOp2 sEq (fName 2) (fName 1)))
theorem b_spoken_to_2_eq : b_spoken_to_2 = (fB (fOp2 sEq (fName 2) (fName 1))) := rfl
def b_spoken_to : FS := (fRet (fCall sTuple (faCons (fLC (fiSeq (fOp2 sIx (fName 0) (fC (.int 1)))) (gTup [(gSet 2), (gSet 3)]) b_spoken_to_2 b_spoken_to_1 [2, 3]) faNil)))
theorem b_spoken_to_eq : b_spoken_to = (fRet (fCall sTuple (faCons (fLC (fiSeq (fOp2 sIx (fName 0) (fC (.int 1)))) (gTup [(gSet 2), (gSet 3)]) b_spoken_to_2 b_spoken_to_1 [2, 3]) faNil))) := rfl
def F_spoken_to : List D → CO := runF [false, false] 4 b_spoken_to
theorem F_spoken_to_eq : F_spoken_to = runF [false, false] 4 b_spoken_to := rfl
theorem own_spoken_to (Z : Zs mg) {f : Addr} {fd : FuncData} (F : Fun K "spoken_to" "spoken_to" s_spoken_to f fd) (hm : mg "spoken_to" = some (.ref f)) : Own P w K mg base 1 "spoken_to" ["net", "house"] [false, false] F_spoken_to :=
  ⟨f, fd, fn_ok F sc_spoken_to rfl rfl fun cdv A outer s H E hr =>
    have ft := fitE (P := P) (w := w) (K := K) (mg := mg) (base := base) (N := ["net", "house", "one", "two"]) (qual := "spoken_to") (scope := defScope s_spoken_to) (f := f) (cd := cdv) (A := A) (outer := outer) (s := s) (H := H) (E := E)
    (xs_one (s_ret (y_typ (f_tuple ft) rfl Z.tuple_ (xa_cons (x_lc (own := [("one", 2), ("two", 3)]) (ft).K (ft).calm sc_spoken_to.nd (xi_seq (ft).K (y_ix ft (x_name (i := 0)) x_int)) (blkOk_by (by rfl)) (fun _ _ _ _ _ => (g_tup ((Fit.blk ft)).calm ((Fit.blk ft)).K (gs_cons (g_name (i := 2) sc_spoken_to.nd rfl (by first | exact .inl rfl | exact .inr rfl)) (gs_cons (g_name (i := 3) sc_spoken_to.nd rfl (by first | exact .inl rfl | exact .inr rfl)) gs_nil)))) (fun _ _ _ _ _ => (xts_one (yt_cmp (c_eq (Fit.blk ft) hr) (x_name (i := 2)) (x_name (i := 1))))) (fun _ _ _ _ _ => (x_own (x_name (i := 3)))) (by decide)) xa_nil)))), hm, F.kp, bindsE F (fun kV doc pm an cdv ct j us ws _ h2 h3 => bs2 (B := fun j us ws => bindArgs (PySem.W.fnOf "spoken_to" "spoken_to" (defArgs s_spoken_to) (defBody s_spoken_to) (defScope s_spoken_to) .none kV doc pm an cdv ct) ⟨us, ((["net", "house"] : List Str).drop j).zip ws⟩ = pure ((["net", "house"] : List Str).zip (us ++ ws))) (by intros; rfl) (by intros; rfl) (by intros; rfl) j us ws h2 h3)⟩
abbrev s_short_trails : Stmt := topS 3
theorem sc_short_trails : FnScope ["net", "start", "end", "most", "found", "left", "here", "house"] ["net", "start", "end", "most"] (defScope s_short_trails) := ⟨rfl, rfl, rfl, by decide +kernel, rfl, by decide +kernel, by decide +kernel⟩
def b_short_trails_1 : FE := (fOp2 sAdd (fName 6) (fTup (faCons (fOwn (fName 7)) faNil)))
theorem b_short_trails_1_eq : b_short_trails_1 = (fOp2 sAdd (fName 6) (fTup (faCons (fOwn (fName 7)) faNil))) := rfl
def b_short_trails_2 : FT := (fB (fOp2 (sIn true) (fName 7) (fName 6)))
theorem b_short_trails_2_eq : b_short_trails_2 = (fB (fOp2 (sIn true) (fName 7) (fName 6))) := rfl
def b_short_trails_3 : FS := (fSeq (fAsg (fPop 5) (gSet 6))
 (fIfS (fB (fOp2 sEq (fOp2 sIx (fName 6) (fOp1 sNeg (fC (.int 1)))) (fName 2)))
 (fDrop (fApp 4 (fOwn (fName 6))))
 (fIfS (fB (fOp2 sLe (fCall sLen (faCons (fName 6) faNil)) (fName 3)))
 (fDrop (fExt 5 (fLC (fiSeq (fCallU [false, false] F_spoken_to (faCons (fFz (fName 0)) (faCons (fOp2 sIx (fName 6) (fOp1 sNeg (fC (.int 1)))) faNil)))) (gSet 7) b_short_trails_2 b_short_trails_1 [7])))
 fNx)))
theorem b_short_trails_3_eq : b_short_trails_3 = (fSeq (fAsg (fPop 5) (gSet 6))
 (fIfS (fB (fOp2 sEq (fOp2 sIx (fName 6) (fOp1 sNeg (fC (.int 1)))) (fName 2)))
 (fDrop (fApp 4 (fOwn (fName 6))))
 (fIfS (fB (fOp2 sLe (fCall sLen (faCons (fName 6) faNil)) (fName 3)))
 (fDrop (fExt 5 (fLC (fiSeq (fCallU [false, false] F_spoken_to (faCons (fFz (fName 0)) (faCons (fOp2 sIx (fName 6) (fOp1 sNeg (fC (.int 1)))) faNil)))) (gSet 7) b_short_trails_2 b_short_trails_1 [7])))
 fNx))) := rfl
def b_short_trails_4 : FT := (fB (fOp2 sGt (fCall sLen (faCons (fName 5) faNil)) (fC (.int 0))))
theorem b_short_trails_4_eq : b_short_trails_4 = (fB (fOp2 sGt (fCall sLen (faCons (fName 5) faNil)) (fC (.int 0)))) := rfl
def b_short_trails : FS := (fSeq (fPar 4 5 (faCons (fLst faNil) (faCons (fLst (faCons (fTup (faCons (fOwn (fName 1)) faNil)) faNil)) faNil)))
 (fSeq (fWhile b_short_trails_4
 b_short_trails_3)
 (fRet (fCall sTuple (faCons (fCall sSorted (faCons (fName 4) faNil)) faNil)))))
theorem b_short_trails_eq : b_short_trails = (fSeq (fPar 4 5 (faCons (fLst faNil) (faCons (fLst (faCons (fTup (faCons (fOwn (fName 1)) faNil)) faNil)) faNil)))
 (fSeq (fWhile b_short_trails_4
 b_short_trails_3)
 (fRet (fCall sTuple (faCons (fCall sSorted (faCons (fName 4) faNil)) faNil))))) := rfl
def F_short_trails : List D → CO := runF [false, false, false, false] 8 b_short_trails
theorem F_short_trails_eq : F_short_trails = runF [false, false, false, false] 8 b_short_trails := rfl
theorem own_short_trails (Z : Zs mg) {f : Addr} {fd : FuncData} (F : Fun K "short_trails" "short_trails" s_short_trails f fd) (hm : mg "short_trails" = some (.ref f)) (O_spoken_to : Own P w K mg base 1 "spoken_to" ["net", "house"] [false, false] F_spoken_to) : Own P w K mg base 2 "short_trails" ["net", "start", "end", "most"] [false, false, false, false] F_short_trails :=
  ⟨f, fd, fn_ok F sc_short_trails rfl rfl fun cdv A outer s H E hr =>
    have ft := fitE (P := P) (w := w) (K := K) (mg := mg) (base := base) (N := ["net", "start", "end", "most", "found", "left", "here", "house"]) (qual := "short_trails") (scope := defScope s_short_trails) (f := f) (cd := cdv) (A := A) (outer := outer) (s := s) (H := H) (E := E)
    (xs_cons (s_par (i := 4) (j := 5) rfl sc_short_trails.nd rfl rfl (by decide) rfl rfl (xa_cons (x_lst xa_nil) (xa_cons (x_lst (xa_cons (x_tup (xa_cons (x_own (x_name (i := 1))) xa_nil)) xa_nil)) xa_nil)) rfl)
 (xs_cons (s_while powE (yt_cmp (c_gt ft) (y_blt (f_len ft) rfl Z.len_ (xa_cons (x_name (i := 5)) xa_nil)) x_int)
 (xs_cons (s_set (i := 6) sc_short_trails.nd rfl (by first | exact .inl rfl | exact .inr rfl) (x_pop (i := 5) rfl (by first | exact .inl rfl | exact .inr (.inl rfl) | exact .inr (.inr rfl))))
 (xs_one (s_if (yt_cmp (c_eq ft hr) (y_ix ft (x_name (i := 6)) (y_neg x_int)) (x_name (i := 2)))
 (xs_one (s_expr (x_append (i := 4) rfl (by first | exact .inl rfl | exact .inr (.inl rfl) | exact .inr (.inr rfl)) (x_own (x_name (i := 6))))))
 (xs_one (s_if (yt_cmp (c_le ft) (y_blt (f_len ft) rfl Z.len_ (xa_cons (x_name (i := 6)) xa_nil)) (x_name (i := 3)))
 (xs_one (s_expr (x_extend (i := 5) rfl (by first | exact .inl rfl | exact .inr (.inl rfl) | exact .inr (.inr rfl)) (ft).K (x_lc (own := [("house", 7)]) (ft).K (ft).calm sc_short_trails.nd (xi_seq (ft).K (x_callO ft O_spoken_to hr rfl (xa_cons (x_fz (x_name (i := 0))) (xa_cons (y_ix ft (x_name (i := 6)) (y_neg x_int)) xa_nil)))) (blkOk_by (by rfl)) (fun _ _ _ _ _ => (g_name (i := 7) sc_short_trails.nd rfl (by first | exact .inl rfl | exact .inr rfl))) (fun _ _ _ _ _ => (xts_one (yt_cmp (c_notIn (Fit.blk ft) hr) (x_name (i := 7)) (x_name (i := 6))))) (fun _ _ _ _ _ => (y_bin (b_add (Fit.blk ft)) (x_name (i := 6)) (x_tup (xa_cons (x_own (x_name (i := 7))) xa_nil)))) (by decide)))))
 xs_nil))))))
 (xs_one (s_ret (y_typ (f_tuple ft) rfl Z.tuple_ (xa_cons (y_blt (f_sorted ft hr) rfl Z.sorted_ (xa_cons (x_name (i := 4)) xa_nil)) xa_nil)))))), hm, F.kp, bindsE F (fun kV doc pm an cdv ct j us ws _ h2 h3 => bs4 (B := fun j us ws => bindArgs (PySem.W.fnOf "short_trails" "short_trails" (defArgs s_short_trails) (defBody s_short_trails) (defScope s_short_trails) .none kV doc pm an cdv ct) ⟨us, ((["net", "start", "end", "most"] : List Str).drop j).zip ws⟩ = pure ((["net", "start", "end", "most"] : List Str).zip (us ++ ws))) (by intros; rfl) (by intros; rfl) (by intros; rfl) (by intros; rfl) (by intros; rfl) j us ws h2 h3)⟩
abbrev s__law_take : Stmt := topS 5
theorem sc__law_take : FnScope ["box", "many", "digit", "raw"] ["box", "many"] (defScope s__law_take) := ⟨rfl, rfl, rfl, by decide +kernel, rfl, by decide +kernel, by decide +kernel⟩
def b__law_take : FS := (fSeq (fIfS (fB (fOp2 sGt (fOp2 sIx (fName 0) (fC (.int 0))) (fC (.int 0))))
 (fSeq (fAsg (fOp2 sMod (fCall sInt (faCons (fOp2 sIx (fName 0) (fC (.int 0))) faNil)) (fName 1)) (gSet 2))
 (fSeq (fAsg (fOp2 sDiv (fOp2 sIx (fName 0) (fC (.int 0))) (fName 1)) (gStore 0 (fC (.int 0))))
 (fRet (fMv (fName 2)))))
 fNx)
 (fSeq (fAsg (fOp2 sMod (fCall sInt (faCons (fOp2 sAdd (fOp2 sMul (fOp2 sIx (fName 0) (fC (.int 1))) (fC (.int 39373))) (fC (.int 419))) faNil)) (fC (.int 2147483647))) (gSet 3))
 (fSeq (fAsg (fOp2 sAdd (fOp2 sMod (fCall sInt (faCons (fOp2 sAdd (fOp2 sMul (fName 3) (fC (.int 40692))) (fC (.int 43))) faNil)) (fC (.int 2147483399))) (fC (.int 1))) (gStore 0 (fC (.int 1))))
 (fRet (fOp2 sMod (fCall sInt (faCons (fOp2 sDiv (fOp2 sAdd (fOp2 sMul (fName 3) (fC (.int 2147483629))) (fOp2 sIx (fName 0) (fC (.int 1)))) (fC (.int 8209))) faNil)) (fName 1))))))
theorem b__law_take_eq : b__law_take = (fSeq (fIfS (fB (fOp2 sGt (fOp2 sIx (fName 0) (fC (.int 0))) (fC (.int 0))))
 (fSeq (fAsg (fOp2 sMod (fCall sInt (faCons (fOp2 sIx (fName 0) (fC (.int 0))) faNil)) (fName 1)) (gSet 2))
 (fSeq (fAsg (fOp2 sDiv (fOp2 sIx (fName 0) (fC (.int 0))) (fName 1)) (gStore 0 (fC (.int 0))))
 (fRet (fMv (fName 2)))))
 fNx)
 (fSeq (fAsg (fOp2 sMod (fCall sInt (faCons (fOp2 sAdd (fOp2 sMul (fOp2 sIx (fName 0) (fC (.int 1))) (fC (.int 39373))) (fC (.int 419))) faNil)) (fC (.int 2147483647))) (gSet 3))
 (fSeq (fAsg (fOp2 sAdd (fOp2 sMod (fCall sInt (faCons (fOp2 sAdd (fOp2 sMul (fName 3) (fC (.int 40692))) (fC (.int 43))) faNil)) (fC (.int 2147483399))) (fC (.int 1))) (gStore 0 (fC (.int 1))))
 (fRet (fOp2 sMod (fCall sInt (faCons (fOp2 sDiv (fOp2 sAdd (fOp2 sMul (fName 3) (fC (.int 2147483629))) (fOp2 sIx (fName 0) (fC (.int 1)))) (fC (.int 8209))) faNil)) (fName 1)))))) := rfl
def F__law_take : List D → CO := runF [true, false] 4 b__law_take
theorem F__law_take_eq : F__law_take = runF [true, false] 4 b__law_take := rfl
theorem own__law_take (Z : Zs mg) {f : Addr} {fd : FuncData} (F : Fun K "_law_take" "_law_take" s__law_take f fd) (hm : mg "_law_take" = some (.ref f)) : Own P w K mg base 1 "_law_take" ["box", "many"] [true, false] F__law_take :=
  ⟨f, fd, fn_ok F sc__law_take rfl rfl fun cdv A outer s H E hr =>
    have ft := fitE (P := P) (w := w) (K := K) (mg := mg) (base := base) (N := ["box", "many", "digit", "raw"]) (qual := "_law_take") (scope := defScope s__law_take) (f := f) (cd := cdv) (A := A) (outer := outer) (s := s) (H := H) (E := E)
    (xs_cons (s_if (yt_cmp (c_gt ft) (y_ix ft (x_name (i := 0)) x_int) x_int)
 (xs_cons (s_set (i := 2) sc__law_take.nd rfl (by first | exact .inl rfl | exact .inr rfl) (y_bin (b_mod ft) (y_typ (f_int ft) rfl Z.int_ (xa_cons (y_ix ft (x_name (i := 0)) x_int) xa_nil)) (x_name (i := 1))))
 (xs_cons (s_asg (y_bin (b_div ft) (y_ix ft (x_name (i := 0)) x_int) (x_name (i := 1))) (g_store (i := 0) rfl (by first | exact .inl rfl | exact .inr (.inl rfl)) x_int))
 (xs_one (s_ret (x_mv (x_name (i := 2)))))))
 xs_nil)
 (xs_cons (s_set (i := 3) sc__law_take.nd rfl (by first | exact .inl rfl | exact .inr rfl) (y_bin (b_mod ft) (y_typ (f_int ft) rfl Z.int_ (xa_cons (y_bin (b_add ft) (y_bin (b_mul ft) (y_ix ft (x_name (i := 0)) x_int) x_int) x_int) xa_nil)) x_int))
 (xs_cons (s_asg (y_bin (b_add ft) (y_bin (b_mod ft) (y_typ (f_int ft) rfl Z.int_ (xa_cons (y_bin (b_add ft) (y_bin (b_mul ft) (x_name (i := 3)) x_int) x_int) xa_nil)) x_int) x_int) (g_store (i := 0) rfl (by first | exact .inl rfl | exact .inr (.inl rfl)) x_int))
 (xs_one (s_ret (y_bin (b_mod ft) (y_typ (f_int ft) rfl Z.int_ (xa_cons (y_bin (b_div ft) (y_bin (b_add ft) (y_bin (b_mul ft) (x_name (i := 3)) x_int) (y_ix ft (x_name (i := 0)) x_int)) x_int) xa_nil)) (x_name (i := 1)))))))), hm, F.kp, bindsE F (fun kV doc pm an cdv ct j us ws _ h2 h3 => bs2 (B := fun j us ws => bindArgs (PySem.W.fnOf "_law_take" "_law_take" (defArgs s__law_take) (defBody s__law_take) (defScope s__law_take) .none kV doc pm an cdv ct) ⟨us, ((["box", "many"] : List Str).drop j).zip ws⟩ = pure ((["box", "many"] : List Str).zip (us ++ ws))) (by intros; rfl) (by intros; rfl) (by intros; rfl) j us ws h2 h3)⟩
abbrev s__law_pick : Stmt := topS 6
theorem sc__law_pick : FnScope ["box", "some"] ["box", "some"] (defScope s__law_pick) := ⟨rfl, rfl, rfl, by decide +kernel, rfl, by decide +kernel, by decide +kernel⟩
def b__law_pick : FS := (fRet (fOp2 sIx (fName 1) (fCallU [true, false] F__law_take (faCons (fName 0) (faCons (fCall sLen (faCons (fName 1) faNil)) faNil)))))
theorem b__law_pick_eq : b__law_pick = (fRet (fOp2 sIx (fName 1) (fCallU [true, false] F__law_take (faCons (fName 0) (faCons (fCall sLen (faCons (fName 1) faNil)) faNil))))) := rfl
def F__law_pick : List D → CO := runF [true, false] 2 b__law_pick
theorem F__law_pick_eq : F__law_pick = runF [true, false] 2 b__law_pick := rfl
theorem own__law_pick (Z : Zs mg) {f : Addr} {fd : FuncData} (F : Fun K "_law_pick" "_law_pick" s__law_pick f fd) (hm : mg "_law_pick" = some (.ref f)) (O__law_take : Own P w K mg base 1 "_law_take" ["box", "many"] [true, false] F__law_take) : Own P w K mg base 2 "_law_pick" ["box", "some"] [true, false] F__law_pick :=
  ⟨f, fd, fn_ok F sc__law_pick rfl rfl fun cdv A outer s H E hr =>
    have ft := fitE (P := P) (w := w) (K := K) (mg := mg) (base := base) (N := ["box", "some"]) (qual := "_law_pick") (scope := defScope s__law_pick) (f := f) (cd := cdv) (A := A) (outer := outer) (s := s) (H := H) (E := E)
    (xs_one (s_ret (y_ix ft (x_name (i := 1)) (x_callO ft O__law_take hr rfl (xa_cons (x_name (i := 0)) (xa_cons (y_blt (f_len ft) rfl Z.len_ (xa_cons (x_name (i := 1)) xa_nil)) xa_nil)))))), hm, F.kp, bindsE F (fun kV doc pm an cdv ct j us ws _ h2 h3 => bs2 (B := fun j us ws => bindArgs (PySem.W.fnOf "_law_pick" "_law_pick" (defArgs s__law_pick) (defBody s__law_pick) (defScope s__law_pick) .none kV doc pm an cdv ct) ⟨us, ((["box", "some"] : List Str).drop j).zip ws⟩ = pure ((["box", "some"] : List Str).zip (us ++ ws))) (by intros; rfl) (by intros; rfl) (by intros; rfl) j us ws h2 h3)⟩
abbrev s__law_like : Stmt := topS 7
theorem sc__law_like : FnScope ["told", "due", "left", "turn", "one", "two"] ["told", "due"] (defScope s__law_like) := ⟨rfl, rfl, rfl, by decide +kernel, rfl, by decide +kernel, by decide +kernel⟩
def b__law_like_1 : FS := (fSeq (fIfS (fB (fOp2 sEq (fName 2) (fLst faNil)))
 (fRet (fC (.bl true)))
 fNx)
 (fSeq (fAsg (fPop 2) (gTup [(gSet 4), (gSet 5)]))
 (fIfS (fB (fOp1 (sIsN false) (fName 5)))
 (fIfS (fB (fOp1 (sIsN true) (fName 4)))
 (fRet (fC (.bl false)))
 fNx)
 (fIfS (fB (fIsI "bool" (fName 5)))
 (fIfS (ftOr (ftNot (fB (fIsI "bool" (fName 4)))) (fB (fOp2 sNe (fName 4) (fName 5))))
 (fRet (fC (.bl false)))
 fNx)
 (fIfS (fB (fIsI "tuple" (fName 5)))
 (fSeq (fIfS (ftOr (ftNot (fB (fIsI "tuple" (fName 4)))) (fB (fOp2 sNe (fCall sLen (faCons (fName 4) faNil)) (fCall sLen (faCons (fName 5) faNil)))))
 (fRet (fC (.bl false)))
 fNx)
 (fDrop (fExt 2 (fCall sLZ (faCons (fName 4) (faCons (fName 5) faNil))))))
 (fIfS (fB (fIsI "str" (fName 5)))
 (fIfS (ftOr (ftNot (fB (fIsI "str" (fName 4)))) (fB (fOp2 sNe (fName 4) (fName 5))))
 (fRet (fC (.bl false)))
 fNx)
 (fIfS (ftOr (ftNot (fB (fIsI "int" (fName 4)))) (ftOr (fB (fIsI "bool" (fName 4))) (fB (fOp2 sNe (fName 4) (fName 5)))))
 (fRet (fC (.bl false)))
 fNx)))))))
theorem b__law_like_1_eq : b__law_like_1 = (fSeq (fIfS (fB (fOp2 sEq (fName 2) (fLst faNil)))
 (fRet (fC (.bl true)))
 fNx)
 (fSeq (fAsg (fPop 2) (gTup [(gSet 4), (gSet 5)]))
 (fIfS (fB (fOp1 (sIsN false) (fName 5)))
 (fIfS (fB (fOp1 (sIsN true) (fName 4)))
 (fRet (fC (.bl false)))
 fNx)
 (fIfS (fB (fIsI "bool" (fName 5)))
 (fIfS (ftOr (ftNot (fB (fIsI "bool" (fName 4)))) (fB (fOp2 sNe (fName 4) (fName 5))))
 (fRet (fC (.bl false)))
 fNx)
 (fIfS (fB (fIsI "tuple" (fName 5)))
 (fSeq (fIfS (ftOr (ftNot (fB (fIsI "tuple" (fName 4)))) (fB (fOp2 sNe (fCall sLen (faCons (fName 4) faNil)) (fCall sLen (faCons (fName 5) faNil)))))
 (fRet (fC (.bl false)))
 fNx)
 (fDrop (fExt 2 (fCall sLZ (faCons (fName 4) (faCons (fName 5) faNil))))))
 (fIfS (fB (fIsI "str" (fName 5)))
 (fIfS (ftOr (ftNot (fB (fIsI "str" (fName 4)))) (fB (fOp2 sNe (fName 4) (fName 5))))
 (fRet (fC (.bl false)))
 fNx)
 (fIfS (ftOr (ftNot (fB (fIsI "int" (fName 4)))) (ftOr (fB (fIsI "bool" (fName 4))) (fB (fOp2 sNe (fName 4) (fName 5)))))
 (fRet (fC (.bl false)))
 fNx))))))) := rfl
def b__law_like : FS := (fSeq (fAsg (fLst (faCons (fTup (faCons (fOwn (fName 0)) (faCons (fOwn (fName 1)) faNil))) faNil)) (gSet 2))
 (fSeq (fFor (fiRng1 (faCons (fC (.int 1000000)) faNil)) (gSet 3)
 b__law_like_1)
 (fRet (fC (.bl false)))))
theorem b__law_like_eq : b__law_like = (fSeq (fAsg (fLst (faCons (fTup (faCons (fOwn (fName 0)) (faCons (fOwn (fName 1)) faNil))) faNil)) (gSet 2))
 (fSeq (fFor (fiRng1 (faCons (fC (.int 1000000)) faNil)) (gSet 3)
 b__law_like_1)
 (fRet (fC (.bl false))))) := rfl
def F__law_like : List D → CO := runF [false, false] 6 b__law_like
theorem F__law_like_eq : F__law_like = runF [false, false] 6 b__law_like := rfl
theorem own__law_like (Z : Zs mg) {f : Addr} {fd : FuncData} (F : Fun K "_law_like" "_law_like" s__law_like f fd) (hm : mg "_law_like" = some (.ref f)) : Own P w K mg base 1 "_law_like" ["told", "due"] [false, false] F__law_like :=
  ⟨f, fd, fn_ok F sc__law_like rfl rfl fun cdv A outer s H E hr =>
    have ft := fitE (P := P) (w := w) (K := K) (mg := mg) (base := base) (N := ["told", "due", "left", "turn", "one", "two"]) (qual := "_law_like") (scope := defScope s__law_like) (f := f) (cd := cdv) (A := A) (outer := outer) (s := s) (H := H) (E := E)
    (xs_cons (s_set (i := 2) sc__law_like.nd rfl (by first | exact .inl rfl | exact .inr rfl) (x_lst (xa_cons (x_tup (xa_cons (x_own (x_name (i := 0))) (xa_cons (x_own (x_name (i := 1))) xa_nil))) xa_nil)))
 (xs_cons (s_for powE rfl (xi_rng1 rfl Z.range_ (xa_cons x_int xa_nil)) (g_name (i := 3) sc__law_like.nd rfl (by first | exact .inl rfl | exact .inr rfl))
 (xs_cons (s_if (yt_cmp (c_eq ft hr) (x_name (i := 2)) (x_lst xa_nil))
 (xs_one (s_ret x_bl))
 xs_nil)
 (xs_cons (s_asg (x_pop (i := 2) rfl (by first | exact .inl rfl | exact .inr (.inl rfl) | exact .inr (.inr rfl))) (g_tup (ft).calm (ft).K (gs_cons (g_name (i := 4) sc__law_like.nd rfl (by first | exact .inl rfl | exact .inr rfl)) (gs_cons (g_name (i := 5) sc__law_like.nd rfl (by first | exact .inl rfl | exact .inr rfl)) gs_nil))))
 (xs_one (s_if (xt_isN (x_name (i := 5)))
 (xs_one (s_if (xt_notN (x_name (i := 4)))
 (xs_one (s_ret x_bl))
 xs_nil))
 (xs_one (s_if (xt_val (x_isI (T := "bool") (ft).K rfl Z.isinstance_ rfl Z.bool_ (by decide +kernel) (x_name (i := 5))))
 (xs_one (s_if (xt_w (xw_or (xt_not (xt_val (x_isI (T := "bool") (ft).K rfl Z.isinstance_ rfl Z.bool_ (by decide +kernel) (x_name (i := 4))))) (xw_or1 (yt_cmp (c_ne ft hr) (x_name (i := 4)) (x_name (i := 5))))))
 (xs_one (s_ret x_bl))
 xs_nil))
 (xs_one (s_if (xt_val (x_isI (T := "tuple") (ft).K rfl Z.isinstance_ rfl Z.tuple_ (by decide +kernel) (x_name (i := 5))))
 (xs_cons (s_if (xt_w (xw_or (xt_not (xt_val (x_isI (T := "tuple") (ft).K rfl Z.isinstance_ rfl Z.tuple_ (by decide +kernel) (x_name (i := 4))))) (xw_or1 (yt_cmp (c_ne ft hr) (y_blt (f_len ft) rfl Z.len_ (xa_cons (x_name (i := 4)) xa_nil)) (y_blt (f_len ft) rfl Z.len_ (xa_cons (x_name (i := 5)) xa_nil))))))
 (xs_one (s_ret x_bl))
 xs_nil)
 (xs_one (s_expr (x_extend (i := 2) rfl (by first | exact .inl rfl | exact .inr (.inl rfl) | exact .inr (.inr rfl)) (ft).K (x_lz (ft).K rfl Z.list_ rfl Z.zip_ (ft).calm (xa_cons (x_name (i := 4)) (xa_cons (x_name (i := 5)) xa_nil)))))))
 (xs_one (s_if (xt_val (x_isI (T := "str") (ft).K rfl Z.isinstance_ rfl Z.str_ (by decide +kernel) (x_name (i := 5))))
 (xs_one (s_if (xt_w (xw_or (xt_not (xt_val (x_isI (T := "str") (ft).K rfl Z.isinstance_ rfl Z.str_ (by decide +kernel) (x_name (i := 4))))) (xw_or1 (yt_cmp (c_ne ft hr) (x_name (i := 4)) (x_name (i := 5))))))
 (xs_one (s_ret x_bl))
 xs_nil))
 (xs_one (s_if (xt_w (xw_or (xt_not (xt_val (x_isI (T := "int") (ft).K rfl Z.isinstance_ rfl Z.int_ (by decide +kernel) (x_name (i := 4))))) (xw_or (xt_val (x_isI (T := "bool") (ft).K rfl Z.isinstance_ rfl Z.bool_ (by decide +kernel) (x_name (i := 4)))) (xw_or1 (yt_cmp (c_ne ft hr) (x_name (i := 4)) (x_name (i := 5)))))))
 (xs_one (s_ret x_bl))
 xs_nil)))))))))))))
 (xs_one (s_ret x_bl)))), hm, F.kp, bindsE F (fun kV doc pm an cdv ct j us ws _ h2 h3 => bs2 (B := fun j us ws => bindArgs (PySem.W.fnOf "_law_like" "_law_like" (defArgs s__law_like) (defBody s__law_like) (defScope s__law_like) .none kV doc pm an cdv ct) ⟨us, ((["told", "due"] : List Str).drop j).zip ws⟩ = pure ((["told", "due"] : List Str).zip (us ++ ws))) (by intros; rfl) (by intros; rfl) (by intros; rfl) j us ws h2 h3)⟩
abbrev s__law_net : Stmt := topS 8
theorem sc__law_net : FnScope ["box", "many", "mutual", "part", "ways", "one", "two"] ["box", "many", "mutual"] (defScope s__law_net) := ⟨rfl, rfl, rfl, by decide +kernel, rfl, by decide +kernel, by decide +kernel⟩
def b__law_net_1 : FS := (fIfS (ftAnd (ftIf (fB (fName 2)) (fB (fOp2 sLt (fName 5) (fName 6))) (fB (fOp2 sNe (fName 5) (fName 6)))) (fB (fOp2 sLt (fCallU [true, false] F__law_take (faCons (fName 0) (faCons (fOp2 sIx (fName 3) (fC (.int 1))) faNil))) (fOp2 sIx (fName 3) (fC (.int 0))))))
 (fAsg (fIf (fB (fName 2)) (fOp2 sAdd (fName 4) (fLst (faCons (fTup (faCons (fOwn (fName 5)) (faCons (fOwn (fName 6)) faNil))) (faCons (fTup (faCons (fOwn (fName 6)) (faCons (fOwn (fName 5)) faNil))) faNil)))) (fOp2 sAdd (fName 4) (fLst (faCons (fTup (faCons (fOwn (fName 5)) (faCons (fOwn (fName 6)) faNil))) faNil)))) (gSet 4))
 fNx)
theorem b__law_net_1_eq : b__law_net_1 = (fIfS (ftAnd (ftIf (fB (fName 2)) (fB (fOp2 sLt (fName 5) (fName 6))) (fB (fOp2 sNe (fName 5) (fName 6)))) (fB (fOp2 sLt (fCallU [true, false] F__law_take (faCons (fName 0) (faCons (fOp2 sIx (fName 3) (fC (.int 1))) faNil))) (fOp2 sIx (fName 3) (fC (.int 0))))))
 (fAsg (fIf (fB (fName 2)) (fOp2 sAdd (fName 4) (fLst (faCons (fTup (faCons (fOwn (fName 5)) (faCons (fOwn (fName 6)) faNil))) (faCons (fTup (faCons (fOwn (fName 6)) (faCons (fOwn (fName 5)) faNil))) faNil)))) (fOp2 sAdd (fName 4) (fLst (faCons (fTup (faCons (fOwn (fName 5)) (faCons (fOwn (fName 6)) faNil))) faNil)))) (gSet 4))
 fNx) := rfl
def b__law_net_2 : FS := (fFor (fiRng1 (faCons (fName 1) faNil)) (gSet 6)
 b__law_net_1)
theorem b__law_net_2_eq : b__law_net_2 = (fFor (fiRng1 (faCons (fName 1) faNil)) (gSet 6)
 b__law_net_1) := rfl
def b__law_net : FS := (fSeq (fPar 3 4 (faCons (fCallU [true, false] F__law_pick (faCons (fName 0) (faCons (fFz (fLst (faCons (fTup (faCons (fC (.int 1)) (faCons (fC (.int 1)) faNil))) (faCons (fTup (faCons (fC (.int 1)) (faCons (fC (.int 2)) faNil))) (faCons (fTup (faCons (fC (.int 2)) (faCons (fC (.int 3)) faNil))) (faCons (fTup (faCons (fC (.int 1)) (faCons (fC (.int 3)) faNil))) faNil)))))) faNil))) (faCons (fLst faNil) faNil)))
 (fSeq (fFor (fiRng1 (faCons (fName 1) faNil)) (gSet 5)
 b__law_net_2)
 (fRet (fTup (faCons (fOwn (fName 1)) (faCons (fCall sTuple (faCons (fCall sSorted (faCons (fName 4) faNil)) faNil)) faNil))))))
theorem b__law_net_eq : b__law_net = (fSeq (fPar 3 4 (faCons (fCallU [true, false] F__law_pick (faCons (fName 0) (faCons (fFz (fLst (faCons (fTup (faCons (fC (.int 1)) (faCons (fC (.int 1)) faNil))) (faCons (fTup (faCons (fC (.int 1)) (faCons (fC (.int 2)) faNil))) (faCons (fTup (faCons (fC (.int 2)) (faCons (fC (.int 3)) faNil))) (faCons (fTup (faCons (fC (.int 1)) (faCons (fC (.int 3)) faNil))) faNil)))))) faNil))) (faCons (fLst faNil) faNil)))
 (fSeq (fFor (fiRng1 (faCons (fName 1) faNil)) (gSet 5)
 b__law_net_2)
 (fRet (fTup (faCons (fOwn (fName 1)) (faCons (fCall sTuple (faCons (fCall sSorted (faCons (fName 4) faNil)) faNil)) faNil)))))) := rfl
def F__law_net : List D → CO := runF [true, false, false] 7 b__law_net
theorem F__law_net_eq : F__law_net = runF [true, false, false] 7 b__law_net := rfl
theorem own__law_net (Z : Zs mg) {f : Addr} {fd : FuncData} (F : Fun K "_law_net" "_law_net" s__law_net f fd) (hm : mg "_law_net" = some (.ref f)) (O__law_pick : Own P w K mg base 2 "_law_pick" ["box", "some"] [true, false] F__law_pick) (O__law_take : Own P w K mg base 1 "_law_take" ["box", "many"] [true, false] F__law_take) : Own P w K mg base 3 "_law_net" ["box", "many", "mutual"] [true, false, false] F__law_net :=
  ⟨f, fd, fn_ok F sc__law_net rfl rfl fun cdv A outer s H E hr =>
    have ft := fitE (P := P) (w := w) (K := K) (mg := mg) (base := base) (N := ["box", "many", "mutual", "part", "ways", "one", "two"]) (qual := "_law_net") (scope := defScope s__law_net) (f := f) (cd := cdv) (A := A) (outer := outer) (s := s) (H := H) (E := E)
    (xs_cons (s_par (i := 3) (j := 4) rfl sc__law_net.nd rfl rfl (by decide) rfl rfl (xa_cons (x_callO ft O__law_pick hr rfl (xa_cons (x_name (i := 0)) (xa_cons (x_fz (x_lst (xa_cons (x_tup (xa_cons x_int (xa_cons x_int xa_nil))) (xa_cons (x_tup (xa_cons x_int (xa_cons x_int xa_nil))) (xa_cons (x_tup (xa_cons x_int (xa_cons x_int xa_nil))) (xa_cons (x_tup (xa_cons x_int (xa_cons x_int xa_nil))) xa_nil)))))) xa_nil))) (xa_cons (x_lst xa_nil) xa_nil)) rfl)
 (xs_cons (s_for powE rfl (xi_rng1 rfl Z.range_ (xa_cons (x_name (i := 1)) xa_nil)) (g_name (i := 5) sc__law_net.nd rfl (by first | exact .inl rfl | exact .inr rfl))
 (xs_one (s_for powE rfl (xi_rng1 rfl Z.range_ (xa_cons (x_name (i := 1)) xa_nil)) (g_name (i := 6) sc__law_net.nd rfl (by first | exact .inl rfl | exact .inr rfl))
 (xs_one (s_if (xt_w (xw_and (xt_if (xt_val (x_name (i := 2))) (yt_cmp (c_lt ft) (x_name (i := 5)) (x_name (i := 6))) (yt_cmp (c_ne ft hr) (x_name (i := 5)) (x_name (i := 6)))) (xw_and1 (yt_cmp (c_lt ft) (x_callO ft O__law_take hr rfl (xa_cons (x_name (i := 0)) (xa_cons (y_ix ft (x_name (i := 3)) x_int) xa_nil))) (y_ix ft (x_name (i := 3)) x_int)))))
 (xs_one (s_set (i := 4) sc__law_net.nd rfl (by first | exact .inl rfl | exact .inr rfl) (x_if (xt_val (x_name (i := 2))) (y_bin (b_add ft) (x_name (i := 4)) (x_lst (xa_cons (x_tup (xa_cons (x_own (x_name (i := 5))) (xa_cons (x_own (x_name (i := 6))) xa_nil))) (xa_cons (x_tup (xa_cons (x_own (x_name (i := 6))) (xa_cons (x_own (x_name (i := 5))) xa_nil))) xa_nil)))) (y_bin (b_add ft) (x_name (i := 4)) (x_lst (xa_cons (x_tup (xa_cons (x_own (x_name (i := 5))) (xa_cons (x_own (x_name (i := 6))) xa_nil))) xa_nil))))))
 xs_nil)))))
 (xs_one (s_ret (x_tup (xa_cons (x_own (x_name (i := 1))) (xa_cons (y_typ (f_tuple ft) rfl Z.tuple_ (xa_cons (y_blt (f_sorted ft hr) rfl Z.sorted_ (xa_cons (x_name (i := 4)) xa_nil)) xa_nil)) xa_nil))))))), hm, F.kp, bindsE F (fun kV doc pm an cdv ct j us ws _ h2 h3 => bs3 (B := fun j us ws => bindArgs (PySem.W.fnOf "_law_net" "_law_net" (defArgs s__law_net) (defBody s__law_net) (defScope s__law_net) .none kV doc pm an cdv ct) ⟨us, ((["box", "many", "mutual"] : List Str).drop j).zip ws⟩ = pure ((["box", "many", "mutual"] : List Str).zip (us ++ ws))) (by intros; rfl) (by intros; rfl) (by intros; rfl) (by intros; rfl) j us ws h2 h3)⟩
abbrev s__law_trails : Stmt := topS 9
theorem sc__law_trails : FnScope ["net", "start", "end", "rows", "found", "turn", "longer", "row", "one", "two"] ["net", "start", "end"] (defScope s__law_trails) := ⟨rfl, rfl, rfl, by decide +kernel, rfl, by decide +kernel, by decide +kernel⟩
def b__law_trails_1 : FE := (fOwn (fName 7))
theorem b__law_trails_1_eq : b__law_trails_1 = (fOwn (fName 7)) := rfl
def b__law_trails_2 : FT := (fB (fOp2 sEq (fOp2 sIx (fName 7) (fOp1 sNeg (fC (.int 1)))) (fName 2)))
theorem b__law_trails_2_eq : b__law_trails_2 = (fB (fOp2 sEq (fOp2 sIx (fName 7) (fOp1 sNeg (fC (.int 1)))) (fName 2))) := rfl
def b__law_trails_3 : FE := (fOp2 sAdd (fName 7) (fTup (faCons (fOwn (fName 9)) faNil)))
theorem b__law_trails_3_eq : b__law_trails_3 = (fOp2 sAdd (fName 7) (fTup (faCons (fOwn (fName 9)) faNil))) := rfl
def b__law_trails_4 : FT := (ftAnd (fB (fOp2 sEq (fName 8) (fOp2 sIx (fName 7) (fOp1 sNeg (fC (.int 1)))))) (fB (fOp2 (sIn true) (fName 9) (fName 7))))
theorem b__law_trails_4_eq : b__law_trails_4 = (ftAnd (fB (fOp2 sEq (fName 8) (fOp2 sIx (fName 7) (fOp1 sNeg (fC (.int 1)))))) (fB (fOp2 (sIn true) (fName 9) (fName 7)))) := rfl
def b__law_trails_5 : FS := (fIfS (fB (fOp2 sNe (fOp2 sIx (fName 7) (fOp1 sNeg (fC (.int 1)))) (fName 2)))
 (fDrop (fExt 6 (fLC (fiSeq (fOp2 sIx (fName 0) (fC (.int 1)))) (gTup [(gSet 8), (gSet 9)]) b__law_trails_4 b__law_trails_3 [8, 9])))
 fNx)
theorem b__law_trails_5_eq : b__law_trails_5 = (fIfS (fB (fOp2 sNe (fOp2 sIx (fName 7) (fOp1 sNeg (fC (.int 1)))) (fName 2)))
 (fDrop (fExt 6 (fLC (fiSeq (fOp2 sIx (fName 0) (fC (.int 1)))) (gTup [(gSet 8), (gSet 9)]) b__law_trails_4 b__law_trails_3 [8, 9])))
 fNx) := rfl
def b__law_trails_6 : FS := (fSeq (fAsg (fOp2 sAdd (fName 4) (fLC (fiSeq (fName 3)) (gSet 7) b__law_trails_2 b__law_trails_1 [7])) (gSet 4))
 (fSeq (fAsg (fLst faNil) (gSet 6))
 (fSeq (fFor (fiSeq (fName 3)) (gSet 7)
 b__law_trails_5)
 (fAsg (fOwn (fName 6)) (gSet 3)))))
theorem b__law_trails_6_eq : b__law_trails_6 = (fSeq (fAsg (fOp2 sAdd (fName 4) (fLC (fiSeq (fName 3)) (gSet 7) b__law_trails_2 b__law_trails_1 [7])) (gSet 4))
 (fSeq (fAsg (fLst faNil) (gSet 6))
 (fSeq (fFor (fiSeq (fName 3)) (gSet 7)
 b__law_trails_5)
 (fAsg (fOwn (fName 6)) (gSet 3))))) := rfl
def b__law_trails : FS := (fSeq (fPar 3 4 (faCons (fLst (faCons (fTup (faCons (fOwn (fName 1)) faNil)) faNil)) (faCons (fLst faNil) faNil)))
 (fSeq (fFor (fiRng1 (faCons (fOp2 sIx (fName 0) (fC (.int 0))) faNil)) (gSet 5)
 b__law_trails_6)
 (fRet (fCall sTuple (faCons (fCall sSorted (faCons (fName 4) faNil)) faNil)))))
theorem b__law_trails_eq : b__law_trails = (fSeq (fPar 3 4 (faCons (fLst (faCons (fTup (faCons (fOwn (fName 1)) faNil)) faNil)) (faCons (fLst faNil) faNil)))
 (fSeq (fFor (fiRng1 (faCons (fOp2 sIx (fName 0) (fC (.int 0))) faNil)) (gSet 5)
 b__law_trails_6)
 (fRet (fCall sTuple (faCons (fCall sSorted (faCons (fName 4) faNil)) faNil))))) := rfl
def F__law_trails : List D → CO := runF [false, false, false] 10 b__law_trails
theorem F__law_trails_eq : F__law_trails = runF [false, false, false] 10 b__law_trails := rfl
theorem own__law_trails (Z : Zs mg) {f : Addr} {fd : FuncData} (F : Fun K "_law_trails" "_law_trails" s__law_trails f fd) (hm : mg "_law_trails" = some (.ref f)) : Own P w K mg base 1 "_law_trails" ["net", "start", "end"] [false, false, false] F__law_trails :=
  ⟨f, fd, fn_ok F sc__law_trails rfl rfl fun cdv A outer s H E hr =>
    have ft := fitE (P := P) (w := w) (K := K) (mg := mg) (base := base) (N := ["net", "start", "end", "rows", "found", "turn", "longer", "row", "one", "two"]) (qual := "_law_trails") (scope := defScope s__law_trails) (f := f) (cd := cdv) (A := A) (outer := outer) (s := s) (H := H) (E := E)
    (xs_cons (s_par (i := 3) (j := 4) rfl sc__law_trails.nd rfl rfl (by decide) rfl rfl (xa_cons (x_lst (xa_cons (x_tup (xa_cons (x_own (x_name (i := 1))) xa_nil)) xa_nil)) (xa_cons (x_lst xa_nil) xa_nil)) rfl)
 (xs_cons (s_for powE rfl (xi_rng1 rfl Z.range_ (xa_cons (y_ix ft (x_name (i := 0)) x_int) xa_nil)) (g_name (i := 5) sc__law_trails.nd rfl (by first | exact .inl rfl | exact .inr rfl))
 (xs_cons (s_set (i := 4) sc__law_trails.nd rfl (by first | exact .inl rfl | exact .inr rfl) (y_bin (b_add ft) (x_name (i := 4)) (x_lc (own := [("row", 7)]) (ft).K (ft).calm sc__law_trails.nd (xi_seq (ft).K (x_name (i := 3))) (blkOk_by (by rfl)) (fun _ _ _ _ _ => (g_name (i := 7) sc__law_trails.nd rfl (by first | exact .inl rfl | exact .inr rfl))) (fun _ _ _ _ _ => (xts_one (yt_cmp (c_eq (Fit.blk ft) hr) (y_ix (Fit.blk ft) (x_name (i := 7)) (y_neg x_int)) (x_name (i := 2))))) (fun _ _ _ _ _ => (x_own (x_name (i := 7)))) (by decide))))
 (xs_cons (s_set (i := 6) sc__law_trails.nd rfl (by first | exact .inl rfl | exact .inr rfl) (x_lst xa_nil))
 (xs_cons (s_for powE rfl (xi_seq (ft).K (x_name (i := 3))) (g_name (i := 7) sc__law_trails.nd rfl (by first | exact .inl rfl | exact .inr rfl))
 (xs_one (s_if (yt_cmp (c_ne ft hr) (y_ix ft (x_name (i := 7)) (y_neg x_int)) (x_name (i := 2)))
 (xs_one (s_expr (x_extend (i := 6) rfl (by first | exact .inl rfl | exact .inr (.inl rfl) | exact .inr (.inr rfl)) (ft).K (x_lc (own := [("one", 8), ("two", 9)]) (ft).K (ft).calm sc__law_trails.nd (xi_seq (ft).K (y_ix ft (x_name (i := 0)) x_int)) (blkOk_by (by rfl)) (fun _ _ _ _ _ => (g_tup ((Fit.blk ft)).calm ((Fit.blk ft)).K (gs_cons (g_name (i := 8) sc__law_trails.nd rfl (by first | exact .inl rfl | exact .inr rfl)) (gs_cons (g_name (i := 9) sc__law_trails.nd rfl (by first | exact .inl rfl | exact .inr rfl)) gs_nil)))) (fun _ _ _ _ _ => (xts_one (xt_w (xw_and (yt_cmp (c_eq (Fit.blk ft) hr) (x_name (i := 8)) (y_ix (Fit.blk ft) (x_name (i := 7)) (y_neg x_int))) (xw_and1 (yt_cmp (c_notIn (Fit.blk ft) hr) (x_name (i := 9)) (x_name (i := 7)))))))) (fun _ _ _ _ _ => (y_bin (b_add (Fit.blk ft)) (x_name (i := 7)) (x_tup (xa_cons (x_own (x_name (i := 9))) xa_nil)))) (by decide)))))
 xs_nil)))
 (xs_one (s_set (i := 3) sc__law_trails.nd rfl (by first | exact .inl rfl | exact .inr rfl) (x_own (x_name (i := 6)))))))))
 (xs_one (s_ret (y_typ (f_tuple ft) rfl Z.tuple_ (xa_cons (y_blt (f_sorted ft hr) rfl Z.sorted_ (xa_cons (x_name (i := 4)) xa_nil)) xa_nil)))))), hm, F.kp, bindsE F (fun kV doc pm an cdv ct j us ws _ h2 h3 => bs3 (B := fun j us ws => bindArgs (PySem.W.fnOf "_law_trails" "_law_trails" (defArgs s__law_trails) (defBody s__law_trails) (defScope s__law_trails) .none kV doc pm an cdv ct) ⟨us, ((["net", "start", "end"] : List Str).drop j).zip ws⟩ = pure ((["net", "start", "end"] : List Str).zip (us ++ ws))) (by intros; rfl) (by intros; rfl) (by intros; rfl) (by intros; rfl) j us ws h2 h3)⟩
abbrev s__law_ends : Stmt := topS 10
theorem sc__law_ends : FnScope ["box", "net", "pairs", "one", "two", "far", "pair"] ["box", "net"] (defScope s__law_ends) := ⟨rfl, rfl, rfl, by decide +kernel, rfl, by decide +kernel, by decide +kernel⟩
def b__law_ends_1 : FS := (fSeq (fAsg (fCallU [true, false] F__law_take (faCons (fName 0) (faCons (fOp2 sIx (fName 1) (fC (.int 0))) faNil))) (gSet 4))
 (fIfS (fB (fOp2 sNe (fName 3) (fName 4)))
 (fDrop (fApp 2 (fTup (faCons (fOwn (fName 3)) (faCons (fOwn (fName 4)) faNil)))))
 fNx))
theorem b__law_ends_1_eq : b__law_ends_1 = (fSeq (fAsg (fCallU [true, false] F__law_take (faCons (fName 0) (faCons (fOp2 sIx (fName 1) (fC (.int 0))) faNil))) (gSet 4))
 (fIfS (fB (fOp2 sNe (fName 3) (fName 4)))
 (fDrop (fApp 2 (fTup (faCons (fOwn (fName 3)) (faCons (fOwn (fName 4)) faNil)))))
 fNx)) := rfl
def b__law_ends_2 : FE := (fOwn (fName 6))
theorem b__law_ends_2_eq : b__law_ends_2 = (fOwn (fName 6)) := rfl
def b__law_ends_3 : FT := (fB (fOp2 (sIn true) (fName 6) (fOp2 sIx (fName 1) (fC (.int 1)))))
theorem b__law_ends_3_eq : b__law_ends_3 = (fB (fOp2 (sIn true) (fName 6) (fOp2 sIx (fName 1) (fC (.int 1))))) := rfl
def b__law_ends : FS := (fSeq (fAsg (fLst faNil) (gSet 2))
 (fSeq (fFor (fiRng1 (faCons (fOp2 sIx (fName 1) (fC (.int 0))) faNil)) (gSet 3)
 b__law_ends_1)
 (fSeq (fAsg (fLC (fiSeq (fName 2)) (gSet 6) b__law_ends_3 b__law_ends_2 [6]) (gSet 5))
 (fSeq (fIfS (fB (fOp2 sEq (fName 2) (fLst faNil)))
 (fRet (fTup (faCons (fC (.int 0)) (faCons (fC (.int 1)) faNil))))
 fNx)
 (fRet (fCallU [true, false] F__law_pick (faCons (fName 0) (faCons (fFz (fLst (faCons (fCallU [true, false] F__law_pick (faCons (fName 0) (faCons (fIf (fB (fOp2 sNe (fName 5) (fLst faNil))) (fFz (fName 5)) (fFz (fName 2))) faNil))) (faCons (fCallU [true, false] F__law_pick (faCons (fName 0) (faCons (fFz (fName 2)) faNil))) faNil)))) faNil))))))))
theorem b__law_ends_eq : b__law_ends = (fSeq (fAsg (fLst faNil) (gSet 2))
 (fSeq (fFor (fiRng1 (faCons (fOp2 sIx (fName 1) (fC (.int 0))) faNil)) (gSet 3)
 b__law_ends_1)
 (fSeq (fAsg (fLC (fiSeq (fName 2)) (gSet 6) b__law_ends_3 b__law_ends_2 [6]) (gSet 5))
 (fSeq (fIfS (fB (fOp2 sEq (fName 2) (fLst faNil)))
 (fRet (fTup (faCons (fC (.int 0)) (faCons (fC (.int 1)) faNil))))
 fNx)
 (fRet (fCallU [true, false] F__law_pick (faCons (fName 0) (faCons (fFz (fLst (faCons (fCallU [true, false] F__law_pick (faCons (fName 0) (faCons (fIf (fB (fOp2 sNe (fName 5) (fLst faNil))) (fFz (fName 5)) (fFz (fName 2))) faNil))) (faCons (fCallU [true, false] F__law_pick (faCons (fName 0) (faCons (fFz (fName 2)) faNil))) faNil)))) faNil)))))))) := rfl
def F__law_ends : List D → CO := runF [true, false] 7 b__law_ends
theorem F__law_ends_eq : F__law_ends = runF [true, false] 7 b__law_ends := rfl
theorem own__law_ends (Z : Zs mg) {f : Addr} {fd : FuncData} (F : Fun K "_law_ends" "_law_ends" s__law_ends f fd) (hm : mg "_law_ends" = some (.ref f)) (O__law_pick : Own P w K mg base 2 "_law_pick" ["box", "some"] [true, false] F__law_pick) (O__law_take : Own P w K mg base 1 "_law_take" ["box", "many"] [true, false] F__law_take) : Own P w K mg base 3 "_law_ends" ["box", "net"] [true, false] F__law_ends :=
  ⟨f, fd, fn_ok F sc__law_ends rfl rfl fun cdv A outer s H E hr =>
    have ft := fitE (P := P) (w := w) (K := K) (mg := mg) (base := base) (N := ["box", "net", "pairs", "one", "two", "far", "pair"]) (qual := "_law_ends") (scope := defScope s__law_ends) (f := f) (cd := cdv) (A := A) (outer := outer) (s := s) (H := H) (E := E)
    (xs_cons (s_set (i := 2) sc__law_ends.nd rfl (by first | exact .inl rfl | exact .inr rfl) (x_lst xa_nil))
 (xs_cons (s_for powE rfl (xi_rng1 rfl Z.range_ (xa_cons (y_ix ft (x_name (i := 1)) x_int) xa_nil)) (g_name (i := 3) sc__law_ends.nd rfl (by first | exact .inl rfl | exact .inr rfl))
 (xs_cons (s_set (i := 4) sc__law_ends.nd rfl (by first | exact .inl rfl | exact .inr rfl) (x_callO ft O__law_take hr rfl (xa_cons (x_name (i := 0)) (xa_cons (y_ix ft (x_name (i := 1)) x_int) xa_nil))))
 (xs_one (s_if (yt_cmp (c_ne ft hr) (x_name (i := 3)) (x_name (i := 4)))
 (xs_one (s_expr (x_append (i := 2) rfl (by first | exact .inl rfl | exact .inr (.inl rfl) | exact .inr (.inr rfl)) (x_tup (xa_cons (x_own (x_name (i := 3))) (xa_cons (x_own (x_name (i := 4))) xa_nil))))))
 xs_nil))))
 (xs_cons (s_setLc (i := 5) (own := [("pair", 6)]) (ft).calm sc__law_ends.nd rfl rfl (xi_seq (ft).K (x_name (i := 2))) (blkOk_by (by rfl)) (fun _ _ _ _ _ => (g_name (i := 6) sc__law_ends.nd rfl (by first | exact .inl rfl | exact .inr rfl))) (fun _ _ _ _ _ => (xts_one (yt_cmp (c_notIn (Fit.blk ft) hr) (x_name (i := 6)) (y_ix (Fit.blk ft) (x_name (i := 1)) x_int)))) (fun _ _ _ _ _ => (x_own (x_name (i := 6)))) (by decide))
 (xs_cons (s_if (yt_cmp (c_eq ft hr) (x_name (i := 2)) (x_lst xa_nil))
 (xs_one (s_ret (x_tup (xa_cons x_int (xa_cons x_int xa_nil)))))
 xs_nil)
 (xs_one (s_ret (x_callO ft O__law_pick hr rfl (xa_cons (x_name (i := 0)) (xa_cons (x_fz (x_lst (xa_cons (x_callO ft O__law_pick hr rfl (xa_cons (x_name (i := 0)) (xa_cons (x_if (yt_cmp (c_ne ft hr) (x_name (i := 5)) (x_lst xa_nil)) (x_fz (x_name (i := 5))) (x_fz (x_name (i := 2)))) xa_nil))) (xa_cons (x_callO ft O__law_pick hr rfl (xa_cons (x_name (i := 0)) (xa_cons (x_fz (x_name (i := 2))) xa_nil))) xa_nil)))) xa_nil))))))))), hm, F.kp, bindsE F (fun kV doc pm an cdv ct j us ws _ h2 h3 => bs2 (B := fun j us ws => bindArgs (PySem.W.fnOf "_law_ends" "_law_ends" (defArgs s__law_ends) (defBody s__law_ends) (defScope s__law_ends) .none kV doc pm an cdv ct) ⟨us, ((["box", "net"] : List Str).drop j).zip ws⟩ = pure ((["box", "net"] : List Str).zip (us ++ ws))) (by intros; rfl) (by intros; rfl) (by intros; rfl) j us ws h2 h3)⟩
abbrev s__law_short : Stmt := topS 11
theorem sc__law_short : FnScope ["net", "start", "end", "most", "row"] ["net", "start", "end", "most"] (defScope s__law_short) := ⟨rfl, rfl, rfl, by decide +kernel, rfl, by decide +kernel, by decide +kernel⟩
def b__law_short_1 : FE := (fOwn (fName 4))
theorem b__law_short_1_eq : b__law_short_1 = (fOwn (fName 4)) := rfl
def b__law_short_2 : FT := (fB (fOp2 sLe (fCall sLen (faCons (fName 4) faNil)) (fOp2 sAdd (fName 3) (fC (.int 1)))))
theorem b__law_short_2_eq : b__law_short_2 = (fB (fOp2 sLe (fCall sLen (faCons (fName 4) faNil)) (fOp2 sAdd (fName 3) (fC (.int 1))))) := rfl
def b__law_short : FS := (fRet (fCall sTuple (faCons (fLC (fiSeq (fCallU [false, false, false] F__law_trails (faCons (fFz (fName 0)) (faCons (fFz (fName 1)) (faCons (fFz (fName 2)) faNil))))) (gSet 4) b__law_short_2 b__law_short_1 [4]) faNil)))
theorem b__law_short_eq : b__law_short = (fRet (fCall sTuple (faCons (fLC (fiSeq (fCallU [false, false, false] F__law_trails (faCons (fFz (fName 0)) (faCons (fFz (fName 1)) (faCons (fFz (fName 2)) faNil))))) (gSet 4) b__law_short_2 b__law_short_1 [4]) faNil))) := rfl
def F__law_short : List D → CO := runF [false, false, false, false] 5 b__law_short
theorem F__law_short_eq : F__law_short = runF [false, false, false, false] 5 b__law_short := rfl
theorem own__law_short (Z : Zs mg) {f : Addr} {fd : FuncData} (F : Fun K "_law_short" "_law_short" s__law_short f fd) (hm : mg "_law_short" = some (.ref f)) (O__law_trails : Own P w K mg base 1 "_law_trails" ["net", "start", "end"] [false, false, false] F__law_trails) : Own P w K mg base 2 "_law_short" ["net", "start", "end", "most"] [false, false, false, false] F__law_short :=
  ⟨f, fd, fn_ok F sc__law_short rfl rfl fun cdv A outer s H E hr =>
    have ft := fitE (P := P) (w := w) (K := K) (mg := mg) (base := base) (N := ["net", "start", "end", "most", "row"]) (qual := "_law_short") (scope := defScope s__law_short) (f := f) (cd := cdv) (A := A) (outer := outer) (s := s) (H := H) (E := E)
    (xs_one (s_ret (y_typ (f_tuple ft) rfl Z.tuple_ (xa_cons (x_lc (own := [("row", 4)]) (ft).K (ft).calm sc__law_short.nd (xi_seq (ft).K (x_callO ft O__law_trails hr rfl (xa_cons (x_fz (x_name (i := 0))) (xa_cons (x_fz (x_name (i := 1))) (xa_cons (x_fz (x_name (i := 2))) xa_nil))))) (blkOk_by (by rfl)) (fun _ _ _ _ _ => (g_name (i := 4) sc__law_short.nd rfl (by first | exact .inl rfl | exact .inr rfl))) (fun _ _ _ _ _ => (xts_one (yt_cmp (c_le (Fit.blk ft)) (y_blt (f_len (Fit.blk ft)) rfl Z.len_ (xa_cons (x_name (i := 4)) xa_nil)) (y_bin (b_add (Fit.blk ft)) (x_name (i := 3)) x_int)))) (fun _ _ _ _ _ => (x_own (x_name (i := 4)))) (by decide)) xa_nil)))), hm, F.kp, bindsE F (fun kV doc pm an cdv ct j us ws _ h2 h3 => bs4 (B := fun j us ws => bindArgs (PySem.W.fnOf "_law_short" "_law_short" (defArgs s__law_short) (defBody s__law_short) (defScope s__law_short) .none kV doc pm an cdv ct) ⟨us, ((["net", "start", "end", "most"] : List Str).drop j).zip ws⟩ = pure ((["net", "start", "end", "most"] : List Str).zip (us ++ ws))) (by intros; rfl) (by intros; rfl) (by intros; rfl) (by intros; rfl) (by intros; rfl) j us ws h2 h3)⟩
abbrev s__law_box : Stmt := topS 12
theorem sc__law_box : FnScope ["script", "k", "cell", "great"] ["script", "k"] (defScope s__law_box) := ⟨rfl, rfl, rfl, by decide +kernel, rfl, by decide +kernel, by decide +kernel⟩
def b__law_box : FS := (fSeq (fAsg (fOp2 sAdd (fOp2 sMul (fC (.int 6037)) (fName 1)) (fC (.int 7643))) (gSet 2))
 (fSeq (fIfS (fB (fOp2 sLt (fName 1) (fCall sLen (faCons (fName 0) faNil))))
 (fAsg (fCall sAbs (faCons (fCall sInt (faCons (fOp2 sIx (fName 0) (fName 1)) faNil)) faNil)) (gSet 2))
 (fIfS (fB (fOp2 sGt (fCall sLen (faCons (fName 0) faNil)) (fC (.int 0))))
 (fAsg (fOp2 sAdd (fName 2) (fOp2 sMul (fOp2 sMod (fCall sInt (faCons (fCall sAbs (faCons (fCall sInt (faCons (fOp2 sIx (fName 0) (fOp2 sMod (fCall sInt (faCons (fName 1) faNil)) (fCall sLen (faCons (fName 0) faNil)))) faNil)) faNil)) faNil)) (fC (.int 2147483563))) (fC (.int 57179)))) (gSet 2))
 fNx))
 (fSeq (fAsg (fIf (fB (fOp2 sGe (fName 2) (fOp2 sPow (fC (.int 10)) (fC (.int 18))))) (fOwn (fName 2)) (fC (.int 0))) (gSet 3))
 (fRet (fLst (faCons (fOwn (fName 3)) (faCons (fOp2 sAdd (fOp2 sMod (fCall sInt (faCons (fOp2 sAdd (fOp2 sMul (fOp2 sMod (fCall sInt (faCons (fName 2) faNil)) (fC (.int 2147483563))) (fC (.int 40014))) (fOp2 sMul (fC (.int 7643)) (fName 1))) faNil)) (fC (.int 2147483563))) (fC (.int 1))) faNil)))))))
theorem b__law_box_eq : b__law_box = (fSeq (fAsg (fOp2 sAdd (fOp2 sMul (fC (.int 6037)) (fName 1)) (fC (.int 7643))) (gSet 2))
 (fSeq (fIfS (fB (fOp2 sLt (fName 1) (fCall sLen (faCons (fName 0) faNil))))
 (fAsg (fCall sAbs (faCons (fCall sInt (faCons (fOp2 sIx (fName 0) (fName 1)) faNil)) faNil)) (gSet 2))
 (fIfS (fB (fOp2 sGt (fCall sLen (faCons (fName 0) faNil)) (fC (.int 0))))
 (fAsg (fOp2 sAdd (fName 2) (fOp2 sMul (fOp2 sMod (fCall sInt (faCons (fCall sAbs (faCons (fCall sInt (faCons (fOp2 sIx (fName 0) (fOp2 sMod (fCall sInt (faCons (fName 1) faNil)) (fCall sLen (faCons (fName 0) faNil)))) faNil)) faNil)) faNil)) (fC (.int 2147483563))) (fC (.int 57179)))) (gSet 2))
 fNx))
 (fSeq (fAsg (fIf (fB (fOp2 sGe (fName 2) (fOp2 sPow (fC (.int 10)) (fC (.int 18))))) (fOwn (fName 2)) (fC (.int 0))) (gSet 3))
 (fRet (fLst (faCons (fOwn (fName 3)) (faCons (fOp2 sAdd (fOp2 sMod (fCall sInt (faCons (fOp2 sAdd (fOp2 sMul (fOp2 sMod (fCall sInt (faCons (fName 2) faNil)) (fC (.int 2147483563))) (fC (.int 40014))) (fOp2 sMul (fC (.int 7643)) (fName 1))) faNil)) (fC (.int 2147483563))) (fC (.int 1))) faNil))))))) := rfl
def F__law_box : List D → CO := runF [false, false] 4 b__law_box
theorem F__law_box_eq : F__law_box = runF [false, false] 4 b__law_box := rfl
theorem own__law_box (Z : Zs mg) {f : Addr} {fd : FuncData} (F : Fun K "_law_box" "_law_box" s__law_box f fd) (hm : mg "_law_box" = some (.ref f)) : Own P w K mg base 1 "_law_box" ["script", "k"] [false, false] F__law_box :=
  ⟨f, fd, fn_ok F sc__law_box rfl rfl fun cdv A outer s H E hr =>
    have ft := fitE (P := P) (w := w) (K := K) (mg := mg) (base := base) (N := ["script", "k", "cell", "great"]) (qual := "_law_box") (scope := defScope s__law_box) (f := f) (cd := cdv) (A := A) (outer := outer) (s := s) (H := H) (E := E)
    (xs_cons (s_set (i := 2) sc__law_box.nd rfl (by first | exact .inl rfl | exact .inr rfl) (y_bin (b_add ft) (y_bin (b_mul ft) x_int (x_name (i := 1))) x_int))
 (xs_cons (s_if (yt_cmp (c_lt ft) (x_name (i := 1)) (y_blt (f_len ft) rfl Z.len_ (xa_cons (x_name (i := 0)) xa_nil)))
 (xs_one (s_set (i := 2) sc__law_box.nd rfl (by first | exact .inl rfl | exact .inr rfl) (y_blt (f_abs ft) rfl Z.abs_ (xa_cons (y_typ (f_int ft) rfl Z.int_ (xa_cons (y_ix ft (x_name (i := 0)) (x_name (i := 1))) xa_nil)) xa_nil))))
 (xs_one (s_if (yt_cmp (c_gt ft) (y_blt (f_len ft) rfl Z.len_ (xa_cons (x_name (i := 0)) xa_nil)) x_int)
 (xs_one (s_set (i := 2) sc__law_box.nd rfl (by first | exact .inl rfl | exact .inr rfl) (y_bin (b_add ft) (x_name (i := 2)) (y_bin (b_mul ft) (y_bin (b_mod ft) (y_typ (f_int ft) rfl Z.int_ (xa_cons (y_blt (f_abs ft) rfl Z.abs_ (xa_cons (y_typ (f_int ft) rfl Z.int_ (xa_cons (y_ix ft (x_name (i := 0)) (y_bin (b_mod ft) (y_typ (f_int ft) rfl Z.int_ (xa_cons (x_name (i := 1)) xa_nil)) (y_blt (f_len ft) rfl Z.len_ (xa_cons (x_name (i := 0)) xa_nil)))) xa_nil)) xa_nil)) xa_nil)) x_int) x_int))))
 xs_nil)))
 (xs_cons (s_set (i := 3) sc__law_box.nd rfl (by first | exact .inl rfl | exact .inr rfl) (x_if (yt_cmp (c_ge ft) (x_name (i := 2)) (y_bin (b_pow ft) x_int x_int)) (x_own (x_name (i := 2))) x_int))
 (xs_one (s_ret (x_lst (xa_cons (x_own (x_name (i := 3))) (xa_cons (y_bin (b_add ft) (y_bin (b_mod ft) (y_typ (f_int ft) rfl Z.int_ (xa_cons (y_bin (b_add ft) (y_bin (b_mul ft) (y_bin (b_mod ft) (y_typ (f_int ft) rfl Z.int_ (xa_cons (x_name (i := 2)) xa_nil)) x_int) x_int) (y_bin (b_mul ft) x_int (x_name (i := 1)))) xa_nil)) x_int) x_int) xa_nil)))))))), hm, F.kp, bindsE F (fun kV doc pm an cdv ct j us ws _ h2 h3 => bs2 (B := fun j us ws => bindArgs (PySem.W.fnOf "_law_box" "_law_box" (defArgs s__law_box) (defBody s__law_box) (defScope s__law_box) .none kV doc pm an cdv ct) ⟨us, ((["script", "k"] : List Str).drop j).zip ws⟩ = pure ((["script", "k"] : List Str).zip (us ++ ws))) (by intros; rfl) (by intros; rfl) (by intros; rfl) j us ws h2 h3)⟩
abbrev s_law : Stmt := topS 13
theorem sc_law : FnScope ["script", "line", "k", "box", "net", "start", "end", "most"] ["script"] (defScope s_law) := ⟨rfl, rfl, rfl, by decide +kernel, rfl, by decide +kernel, by decide +kernel⟩
def b_law_1 : FS := (fIfS (ftNot (fB (fCallU [false, false] F__law_like (faCons (fFz (fCallU [false, false, false, false] F_short_trails (faApp (faCons (fFz (fName 4)) (faCons (fFz (fName 5)) (faCons (fFz (fName 6)) faNil))) (faCons (fFz (fName 7)) faNil)))) (faCons (fFz (fCallU [false, false, false, false] F__law_short (faCons (fFz (fName 4)) (faCons (fFz (fName 5)) (faCons (fFz (fName 6)) (faCons (fFz (fName 7)) faNil)))))) faNil)))))
 (fRet (fC (.bl false)))
 fNx)
theorem b_law_1_eq : b_law_1 = (fIfS (ftNot (fB (fCallU [false, false] F__law_like (faCons (fFz (fCallU [false, false, false, false] F_short_trails (faApp (faCons (fFz (fName 4)) (faCons (fFz (fName 5)) (faCons (fFz (fName 6)) faNil))) (faCons (fFz (fName 7)) faNil)))) (faCons (fFz (fCallU [false, false, false, false] F__law_short (faCons (fFz (fName 4)) (faCons (fFz (fName 5)) (faCons (fFz (fName 6)) (faCons (fFz (fName 7)) faNil)))))) faNil)))))
 (fRet (fC (.bl false)))
 fNx) := rfl
def b_law_2 : FS := (fSeq (fAsg (fCallU [false, false] F__law_box (faCons (fFz (fName 0)) (faCons (fFz (fName 2)) faNil))) (gSet 3))
 (fSeq (fAsg (fCallU [true, false, false] F__law_net (faCons (fName 3) (faCons (fFz (fOp2 sAdd (fC (.int 2)) (fCallU [true, false] F__law_take (faCons (fName 3) (faCons (fC (.int 5)) faNil))))) (faCons (fOp2 sEq (fCallU [true, false] F__law_take (faCons (fName 3) (faCons (fC (.int 2)) faNil))) (fC (.int 0))) faNil)))) (gSet 4))
 (fSeq (fAsg (fCallU [true, false] F__law_ends (faCons (fName 3) (faCons (fFz (fName 4)) faNil))) (gTup [(gSet 5), (gSet 6)]))
 (fFor (fiRng1 (faCons (fOp2 sAdd (fOp2 sIx (fName 4) (fC (.int 0))) (fC (.int 1))) faNil)) (gSet 7)
 b_law_1))))
theorem b_law_2_eq : b_law_2 = (fSeq (fAsg (fCallU [false, false] F__law_box (faCons (fFz (fName 0)) (faCons (fFz (fName 2)) faNil))) (gSet 3))
 (fSeq (fAsg (fCallU [true, false, false] F__law_net (faCons (fName 3) (faCons (fFz (fOp2 sAdd (fC (.int 2)) (fCallU [true, false] F__law_take (faCons (fName 3) (faCons (fC (.int 5)) faNil))))) (faCons (fOp2 sEq (fCallU [true, false] F__law_take (faCons (fName 3) (faCons (fC (.int 2)) faNil))) (fC (.int 0))) faNil)))) (gSet 4))
 (fSeq (fAsg (fCallU [true, false] F__law_ends (faCons (fName 3) (faCons (fFz (fName 4)) faNil))) (gTup [(gSet 5), (gSet 6)]))
 (fFor (fiRng1 (faCons (fOp2 sAdd (fOp2 sIx (fName 4) (fC (.int 0))) (fC (.int 1))) faNil)) (gSet 7)
 b_law_1)))) := rfl
def b_law : FS := (fSeq (fAsg (fTup (faCons (fC (.int 4)) (faCons (fTup (faCons (fTup (faCons (fC (.int 0)) (faCons (fC (.int 1)) faNil))) (faCons (fTup (faCons (fC (.int 1)) (faCons (fC (.int 2)) faNil))) (faCons (fTup (faCons (fC (.int 2)) (faCons (fC (.int 3)) faNil))) faNil)))) faNil))) (gSet 1))
 (fSeq (fIfS (ftOr (ftNot (fB (fCallU [false, false] F__law_like (faCons (fFz (fCallU [false, false, false, false] F_short_trails (faCons (fFz (fName 1)) (faCons (fC (.int 0)) (faCons (fC (.int 3)) (faCons (fC (.int 3)) faNil)))))) (faCons (fTup (faCons (fTup (faCons (fC (.int 0)) (faCons (fC (.int 1)) (faCons (fC (.int 2)) (faCons (fC (.int 3)) faNil))))) faNil)) faNil))))) (ftNot (fB (fCallU [false, false] F__law_like (faCons (fFz (fCallU [false, false, false, false] F_short_trails (faCons (fFz (fName 1)) (faCons (fC (.int 0)) (faCons (fC (.int 3)) (faCons (fC (.int 2)) faNil)))))) (faCons (fTup faNil) faNil))))))
 (fRet (fC (.bl false)))
 fNx)
 (fSeq (fFor (fiRng1 (faCons (fCall sMax2 (faCons (fC (.int 3)) (faCons (fCall sMin2 (faCons (fCall sLen (faCons (fName 0) faNil)) (faCons (fC (.int 8)) faNil))) faNil))) faNil)) (gSet 2)
 b_law_2)
 (fRet (fC (.bl true))))))
theorem b_law_eq : b_law = (fSeq (fAsg (fTup (faCons (fC (.int 4)) (faCons (fTup (faCons (fTup (faCons (fC (.int 0)) (faCons (fC (.int 1)) faNil))) (faCons (fTup (faCons (fC (.int 1)) (faCons (fC (.int 2)) faNil))) (faCons (fTup (faCons (fC (.int 2)) (faCons (fC (.int 3)) faNil))) faNil)))) faNil))) (gSet 1))
 (fSeq (fIfS (ftOr (ftNot (fB (fCallU [false, false] F__law_like (faCons (fFz (fCallU [false, false, false, false] F_short_trails (faCons (fFz (fName 1)) (faCons (fC (.int 0)) (faCons (fC (.int 3)) (faCons (fC (.int 3)) faNil)))))) (faCons (fTup (faCons (fTup (faCons (fC (.int 0)) (faCons (fC (.int 1)) (faCons (fC (.int 2)) (faCons (fC (.int 3)) faNil))))) faNil)) faNil))))) (ftNot (fB (fCallU [false, false] F__law_like (faCons (fFz (fCallU [false, false, false, false] F_short_trails (faCons (fFz (fName 1)) (faCons (fC (.int 0)) (faCons (fC (.int 3)) (faCons (fC (.int 2)) faNil)))))) (faCons (fTup faNil) faNil))))))
 (fRet (fC (.bl false)))
 fNx)
 (fSeq (fFor (fiRng1 (faCons (fCall sMax2 (faCons (fC (.int 3)) (faCons (fCall sMin2 (faCons (fCall sLen (faCons (fName 0) faNil)) (faCons (fC (.int 8)) faNil))) faNil))) faNil)) (gSet 2)
 b_law_2)
 (fRet (fC (.bl true)))))) := rfl
def F_law : List D → CO := runF [false] 8 b_law
theorem F_law_eq : F_law = runF [false] 8 b_law := rfl
theorem fnok_law (Z : Zs mg) {f : Addr} {fd : FuncData} (F : Fun K "law" "law" s_law f fd) (hm : mg "law" = some (.ref f)) (O__law_box : Own P w K mg base 1 "_law_box" ["script", "k"] [false, false] F__law_box) (O__law_net : Own P w K mg base 3 "_law_net" ["box", "many", "mutual"] [true, false, false] F__law_net) (O__law_ends : Own P w K mg base 3 "_law_ends" ["box", "net"] [true, false] F__law_ends) (O__law_like : Own P w K mg base 1 "_law_like" ["told", "due"] [false, false] F__law_like) (O_short_trails : Own P w K mg base 2 "short_trails" ["net", "start", "end", "most"] [false, false, false, false] F_short_trails) (O__law_take : Own P w K mg base 1 "_law_take" ["box", "many"] [true, false] F__law_take) (O__law_short : Own P w K mg base 2 "_law_short" ["net", "start", "end", "most"] [false, false, false, false] F__law_short) : FnOk P w K mg base (L2.CX P w) 4 f fd ["script"] (spF K mg [false] F_law) :=
  fn_ok F sc_law rfl rfl fun cdv A outer s H E hr =>
    have ft := fitE (P := P) (w := w) (K := K) (mg := mg) (base := base) (N := ["script", "line", "k", "box", "net", "start", "end", "most"]) (qual := "law") (scope := defScope s_law) (f := f) (cd := cdv) (A := A) (outer := outer) (s := s) (H := H) (E := E)
    (xs_cons (s_set (i := 1) sc_law.nd rfl (by first | exact .inl rfl | exact .inr rfl) (x_tup (xa_cons x_int (xa_cons (x_tup (xa_cons (x_tup (xa_cons x_int (xa_cons x_int xa_nil))) (xa_cons (x_tup (xa_cons x_int (xa_cons x_int xa_nil))) (xa_cons (x_tup (xa_cons x_int (xa_cons x_int xa_nil))) xa_nil)))) xa_nil))))
 (xs_cons (s_if (xt_w (xw_or (xt_not (xt_val (x_callO ft O__law_like hr rfl (xa_cons (x_fz (x_callO ft O_short_trails hr rfl (xa_cons (x_fz (x_name (i := 1))) (xa_cons x_int (xa_cons x_int (xa_cons x_int xa_nil)))))) (xa_cons (x_tup (xa_cons (x_tup (xa_cons x_int (xa_cons x_int (xa_cons x_int (xa_cons x_int xa_nil))))) xa_nil)) xa_nil))))) (xw_or1 (xt_not (xt_val (x_callO ft O__law_like hr rfl (xa_cons (x_fz (x_callO ft O_short_trails hr rfl (xa_cons (x_fz (x_name (i := 1))) (xa_cons x_int (xa_cons x_int (xa_cons x_int xa_nil)))))) (xa_cons (x_tup xa_nil) xa_nil))))))))
 (xs_one (s_ret x_bl))
 xs_nil)
 (xs_cons (s_for powE rfl (xi_rng1 rfl Z.range_ (xa_cons (y_blt (f_max2 ft) rfl Z.max_ (xa_cons x_int (xa_cons (y_blt (f_min2 ft) rfl Z.min_ (xa_cons (y_blt (f_len ft) rfl Z.len_ (xa_cons (x_name (i := 0)) xa_nil)) (xa_cons x_int xa_nil))) xa_nil))) xa_nil)) (g_name (i := 2) sc_law.nd rfl (by first | exact .inl rfl | exact .inr rfl))
 (xs_cons (s_set (i := 3) sc_law.nd rfl (by first | exact .inl rfl | exact .inr rfl) (x_callO ft O__law_box hr rfl (xa_cons (x_fz (x_name (i := 0))) (xa_cons (x_fz (x_name (i := 2))) xa_nil))))
 (xs_cons (s_set (i := 4) sc_law.nd rfl (by first | exact .inl rfl | exact .inr rfl) (x_callO ft O__law_net hr rfl (xa_cons (x_name (i := 3)) (xa_cons (x_fz (y_bin (b_add ft) x_int (x_callO ft O__law_take hr rfl (xa_cons (x_name (i := 3)) (xa_cons x_int xa_nil))))) (xa_cons (y_cmp (c_eq ft hr) (x_callO ft O__law_take hr rfl (xa_cons (x_name (i := 3)) (xa_cons x_int xa_nil))) x_int) xa_nil)))))
 (xs_cons (s_asg (x_callO ft O__law_ends hr rfl (xa_cons (x_name (i := 3)) (xa_cons (x_fz (x_name (i := 4))) xa_nil))) (g_tup (ft).calm (ft).K (gs_cons (g_name (i := 5) sc_law.nd rfl (by first | exact .inl rfl | exact .inr rfl)) (gs_cons (g_name (i := 6) sc_law.nd rfl (by first | exact .inl rfl | exact .inr rfl)) gs_nil))))
 (xs_one (s_for powE rfl (xi_rng1 rfl Z.range_ (xa_cons (y_bin (b_add ft) (y_ix ft (x_name (i := 4)) x_int) x_int) xa_nil)) (g_name (i := 7) sc_law.nd rfl (by first | exact .inl rfl | exact .inr rfl))
 (xs_one (s_if (xt_not (xt_val (x_callO ft O__law_like hr rfl (xa_cons (x_fz (x_callKw (n := 3) ft O_short_trails hr rfl (xa_cons (x_fz (x_name (i := 4))) (xa_cons (x_fz (x_name (i := 5))) (xa_cons (x_fz (x_name (i := 6))) xa_nil))) (xk_cons (x_fz (x_name (i := 7))) xk_nil) (fal_cons (fal_cons (fal_cons fal_nil))))) (xa_cons (x_fz (x_callO ft O__law_short hr rfl (xa_cons (x_fz (x_name (i := 4))) (xa_cons (x_fz (x_name (i := 5))) (xa_cons (x_fz (x_name (i := 6))) (xa_cons (x_fz (x_name (i := 7))) xa_nil)))))) xa_nil)))))
 (xs_one (s_ret x_bl))
 xs_nil))))))))
 (xs_one (s_ret x_bl)))))
end
end K00
namespace K00
open PySem PySem.Spec
open PyProof.Rows hiding St
open L2 EE
theorem take_ok (a b m : Int) (h0 : 0 < m) (h1 : m < 1073741824) : ∃ a' b' r, 0 ≤ r ∧ r < m ∧ F__law_take [bx a b, .int m] = .ok (.int r) [bx a' b', .non] := by
  have c1 : ∀ x : Int, CMul x 40692 := fun x => .inr ⟨by decide, by decide⟩
  have c2 : ∀ x : Int, CMul x 39373 := fun x => .inr ⟨by decide, by decide⟩
  have c3 : ∀ x : Int, CMul x 2147483629 := fun x => .inr ⟨by decide, by decide⟩
  have d1 : ∀ x : Int, CDiv x m := fun x => ⟨h0, h1⟩
  have d2 : ∀ x : Int, CDiv x 8209 := fun x => ⟨by decide, by decide⟩
  have key : ∃ a' b' r, F__law_take [bx a b, .int m] = .ok (.int r) [bx a' b', .non] ∧ ∃ x, r = x % m := by
    by_cases h : 0 < a
    · refine ⟨a / m, b, a % m, ?_, _, rfl⟩
      rw [F__law_take_eq, runF_def, b__law_take_eq]
      simp [rho0, fSeq, fIfS, fB, fOp2, fOp1, fC, fName, slot, Sl.dat, out2, out1, sIx, seqOf_tup, seqOf_lst, atI, ixN, D.isF, D.isFL, Kd.isF, sGt, sLt, sLe, sGe, s2I, tstB, fAsg, asg, gSet, fOwn, own, ownB, fFz, fzz, fCall, faCons, faApp, faNil, outL, rds, sInt, sMod, sDiv, sSub, sAdd, sMul, gStore, isOwn, stB, wbS, fRet, fMv, mv, rtn, lent, fTup, fLst, outTup, outLst, valsOf, fIf, ftNot, ftAnd, ftOr, fAnd, fOr, fNot, fNx, fBk, fCt, fDrop, fRetN, sIsN, D.isN, sIsI, fIsI, tyD, sLen, sAbs, sMax2, sMin2, sTuple, sList, sLZ, sNeg, s1I, fCallU, callU, pairs, argsOf, lends, wb, fApp, appB, chg, mApp, fExt, extB, mExt, fPop, mPop, fPopAt, popB, mPopAt, EE.gTup, gAll, fPar, par, fAug, sIpA, sIpS, sEqI, sNeI, fiRng1, fiRng2, rng1, rng2, fiSeq, iti, itm, fiEnum, enumI, fiZip, zipI, fYes, fLC, lcEnd, fFor, forL, lcL, wipeR, backR, h, h0, h1, d1]
    · have ho : F__law_take [bx a b, .int m] = F__law_take [bx a b, .int m] := rfl
      conv at ho =>
        rhs
        rw [F__law_take_eq, runF_def, b__law_take_eq]
        simp [rho0, fSeq, fIfS, fB, fOp2, fOp1, fC, fName, slot, Sl.dat, out2, out1, sIx, seqOf_tup, seqOf_lst, atI, ixN, D.isF, D.isFL, Kd.isF, sGt, sLt, sLe, sGe, s2I, tstB, fAsg, asg, gSet, fOwn, own, ownB, fFz, fzz, fCall, faCons, faApp, faNil, outL, rds, sInt, sMod, sDiv, sSub, sAdd, sMul, gStore, isOwn, stB, wbS, fRet, fMv, mv, rtn, lent, fTup, fLst, outTup, outLst, valsOf, fIf, ftNot, ftAnd, ftOr, fAnd, fOr, fNot, fNx, fBk, fCt, fDrop, fRetN, sIsN, D.isN, sIsI, fIsI, tyD, sLen, sAbs, sMax2, sMin2, sTuple, sList, sLZ, sNeg, s1I, fCallU, callU, pairs, argsOf, lends, wb, fApp, appB, chg, mApp, fExt, extB, mExt, fPop, mPop, fPopAt, popB, mPopAt, EE.gTup, gAll, fPar, par, fAug, sIpA, sIpS, sEqI, sNeI, fiRng1, fiRng2, rng1, rng2, fiSeq, iti, itm, fiEnum, enumI, fiZip, zipI, fYes, fLC, lcEnd, fFor, forL, lcL, wipeR, backR, h, h0, h1, c1, c2, c3, d1, d2]
      exact ⟨_, _, _, ho, _, rfl⟩
  obtain ⟨a', b', r, e, x, rfl⟩ := key
  exact ⟨a', b', _, Int.emod_nonneg _ (by omega), Int.emod_lt_of_pos _ h0, e⟩
theorem pick_ok (a b : Int) (d : D) (xs : List D) (hs : seqOf d = some xs) (hd : d.isF = true) (hx : ∀ x ∈ xs, D.isF x = true) (h0 : 0 < xs.length) (h1 : xs.length < 1073741824) : ∃ a' b' x, x ∈ xs ∧ F__law_pick [bx a b, d] = .ok x [bx a' b', .non] := by
  obtain ⟨a', b', r, r0, r1, e⟩ := take_ok a b xs.length (by omega) (by omega)
  have hr : r.toNat < xs.length := by omega
  refine ⟨a', b', xs[r.toNat], List.getElem_mem _, ?_⟩
  have hF := hx _ (List.getElem_mem hr)
  have hlt : r < (xs.length : Int) := r1
  rw [F__law_pick_eq, runF_def, b__law_pick_eq]
  simp [rho0, fSeq, fIfS, fB, fOp2, fOp1, fC, fName, slot, Sl.dat, out2, out1, sIx, seqOf_tup, seqOf_lst, atI, ixN, D.isF, D.isFL, Kd.isF, sGt, sLt, sLe, sGe, s2I, tstB, fAsg, asg, gSet, fOwn, own, ownB, fFz, fzz, fCall, faCons, faApp, faNil, outL, rds, sInt, sMod, sDiv, sSub, sAdd, sMul, gStore, isOwn, stB, wbS, fRet, fMv, mv, rtn, lent, fTup, fLst, outTup, outLst, valsOf, fIf, ftNot, ftAnd, ftOr, fAnd, fOr, fNot, fNx, fBk, fCt, fDrop, fRetN, sIsN, D.isN, sIsI, fIsI, tyD, sLen, sAbs, sMax2, sMin2, sTuple, sList, sLZ, sNeg, s1I, fCallU, callU, pairs, argsOf, lends, wb, fApp, appB, chg, mApp, fExt, extB, mExt, fPop, mPop, fPopAt, popB, mPopAt, EE.gTup, gAll, fPar, par, fAug, sIpA, sIpS, sEqI, sNeI, fiRng1, fiRng2, rng1, rng2, fiSeq, iti, itm, fiEnum, enumI, fiZip, zipI, fYes, fLC, lcEnd, fFor, forL, lcL, wipeR, backR, hd, e, r0, r1, hF, hr, hs]
theorem box_ok (ns : List Int) (k : Nat) : ∃ a b, F__law_box [scr ns, .int k] = .ok (bx a b) [.non, .non] := by
  have c1 : ∀ x : Int, CMul 6037 x := fun x => .inl ⟨by decide, by decide⟩
  have c2 : ∀ x : Int, CMul x 57179 := fun x => .inr ⟨by decide, by decide⟩
  have c3 : ∀ x : Int, CMul x 40014 := fun x => .inr ⟨by decide, by decide⟩
  have c4 : ∀ x : Int, CMul 7643 x := fun x => .inl ⟨by decide, by decide⟩
  have hFL : D.isFL (ns.map D.int) = true := D.isFL_iff.mpr fun x hx => by
    obtain ⟨n, _, rfl⟩ := List.mem_map.mp hx; rfl
  have ho : F__law_box [scr ns, .int k] = F__law_box [scr ns, .int k] := rfl
  obtain ⟨c, hc⟩ : ∃ c : Int, 6037 * (k : Int) + 7643 = c := ⟨_, rfl⟩
  by_cases h : k < ns.length
  · have g1 : ns[k]? = some ns[k] := List.getElem?_eq_getElem h
    by_cases h2 : (1000000000000000000 : Int) ≤ (if ns[k] < 0 then -ns[k] else ns[k])
    · conv at ho =>
        rhs
        rw [F__law_box_eq, runF_def, b__law_box_eq]
        simp [rho0, fSeq, fIfS, fB, fOp2, fOp1, fC, fName, slot, Sl.dat, out2, out1, sIx, seqOf_tup, seqOf_lst, atI, ixN, D.isF, D.isFL, Kd.isF, sGt, sLt, sLe, sGe, s2I, tstB, fAsg, asg, gSet, fOwn, own, ownB, fFz, fzz, fCall, faCons, faApp, faNil, outL, rds, sInt, sMod, sDiv, sSub, sAdd, sMul, gStore, isOwn, stB, wbS, fRet, fMv, mv, rtn, lent, fTup, fLst, outTup, outLst, valsOf, fIf, ftNot, ftAnd, ftOr, fAnd, fOr, fNot, fNx, fBk, fCt, fDrop, fRetN, sIsN, D.isN, sIsI, fIsI, tyD, sLen, sAbs, sMax2, sMin2, sTuple, sList, sLZ, sNeg, s1I, fCallU, callU, pairs, argsOf, lends, wb, fApp, appB, chg, mApp, fExt, extB, mExt, fPop, mPop, fPopAt, popB, mPopAt, EE.gTup, gAll, fPar, par, fAug, sIpA, sIpS, sEqI, sNeI, fiRng1, fiRng2, rng1, rng2, fiSeq, iti, itm, fiEnum, enumI, fiZip, zipI, fYes, fLC, lcEnd, fFor, forL, lcL, wipeR, backR, scr, h, h2, c1, c2, c3, c4, hFL, pw18, hc, g1]
      exact ⟨_, _, ho⟩
    · conv at ho =>
        rhs
        rw [F__law_box_eq, runF_def, b__law_box_eq]
        simp [rho0, fSeq, fIfS, fB, fOp2, fOp1, fC, fName, slot, Sl.dat, out2, out1, sIx, seqOf_tup, seqOf_lst, atI, ixN, D.isF, D.isFL, Kd.isF, sGt, sLt, sLe, sGe, s2I, tstB, fAsg, asg, gSet, fOwn, own, ownB, fFz, fzz, fCall, faCons, faApp, faNil, outL, rds, sInt, sMod, sDiv, sSub, sAdd, sMul, gStore, isOwn, stB, wbS, fRet, fMv, mv, rtn, lent, fTup, fLst, outTup, outLst, valsOf, fIf, ftNot, ftAnd, ftOr, fAnd, fOr, fNot, fNx, fBk, fCt, fDrop, fRetN, sIsN, D.isN, sIsI, fIsI, tyD, sLen, sAbs, sMax2, sMin2, sTuple, sList, sLZ, sNeg, s1I, fCallU, callU, pairs, argsOf, lends, wb, fApp, appB, chg, mApp, fExt, extB, mExt, fPop, mPop, fPopAt, popB, mPopAt, EE.gTup, gAll, fPar, par, fAug, sIpA, sIpS, sEqI, sNeI, fiRng1, fiRng2, rng1, rng2, fiSeq, iti, itm, fiEnum, enumI, fiZip, zipI, fYes, fLC, lcEnd, fFor, forL, lcL, wipeR, backR, scr, h, h2, c1, c2, c3, c4, hFL, pw18, hc, g1]
      exact ⟨_, _, ho⟩
  · have hk : ¬ ((k : Int) < ns.length) := by omega
    by_cases hn : 0 < ns.length
    · have hn' : (0 : Int) < ns.length := by omega
      have m1 : 0 ≤ (k : Int) % (ns.length : Int) := Int.emod_nonneg _ (by omega)
      have m2 : (k : Int) % (ns.length : Int) < ns.length := Int.emod_lt_of_pos _ hn'
      have m3 : k % ns.length < ns.length := Nat.mod_lt _ hn
      have m4 : ((k : Int) % (ns.length : Int)).toNat = k % ns.length := by omega
      have g1 : ns[k % ns.length]? = some ns[k % ns.length] := List.getElem?_eq_getElem m3
      by_cases h2 : (1000000000000000000 : Int) ≤ c + (if ns[k % ns.length] < 0 then -ns[k % ns.length] else ns[k % ns.length]) % 2147483563 * 57179
      · conv at ho =>
          rhs
          rw [F__law_box_eq, runF_def, b__law_box_eq]
          simp [rho0, fSeq, fIfS, fB, fOp2, fOp1, fC, fName, slot, Sl.dat, out2, out1, sIx, seqOf_tup, seqOf_lst, atI, ixN, D.isF, D.isFL, Kd.isF, sGt, sLt, sLe, sGe, s2I, tstB, fAsg, asg, gSet, fOwn, own, ownB, fFz, fzz, fCall, faCons, faApp, faNil, outL, rds, sInt, sMod, sDiv, sSub, sAdd, sMul, gStore, isOwn, stB, wbS, fRet, fMv, mv, rtn, lent, fTup, fLst, outTup, outLst, valsOf, fIf, ftNot, ftAnd, ftOr, fAnd, fOr, fNot, fNx, fBk, fCt, fDrop, fRetN, sIsN, D.isN, sIsI, fIsI, tyD, sLen, sAbs, sMax2, sMin2, sTuple, sList, sLZ, sNeg, s1I, fCallU, callU, pairs, argsOf, lends, wb, fApp, appB, chg, mApp, fExt, extB, mExt, fPop, mPop, fPopAt, popB, mPopAt, EE.gTup, gAll, fPar, par, fAug, sIpA, sIpS, sEqI, sNeI, fiRng1, fiRng2, rng1, rng2, fiSeq, iti, itm, fiEnum, enumI, fiZip, zipI, fYes, fLC, lcEnd, fFor, forL, lcL, wipeR, backR, scr, h, hk, h2, c1, c2, c3, c4, hFL, pw18, hc, g1, m1, m2, m3, m4, hn, hn']
        exact ⟨_, _, ho⟩
      · conv at ho =>
          rhs
          rw [F__law_box_eq, runF_def, b__law_box_eq]
          simp [rho0, fSeq, fIfS, fB, fOp2, fOp1, fC, fName, slot, Sl.dat, out2, out1, sIx, seqOf_tup, seqOf_lst, atI, ixN, D.isF, D.isFL, Kd.isF, sGt, sLt, sLe, sGe, s2I, tstB, fAsg, asg, gSet, fOwn, own, ownB, fFz, fzz, fCall, faCons, faApp, faNil, outL, rds, sInt, sMod, sDiv, sSub, sAdd, sMul, gStore, isOwn, stB, wbS, fRet, fMv, mv, rtn, lent, fTup, fLst, outTup, outLst, valsOf, fIf, ftNot, ftAnd, ftOr, fAnd, fOr, fNot, fNx, fBk, fCt, fDrop, fRetN, sIsN, D.isN, sIsI, fIsI, tyD, sLen, sAbs, sMax2, sMin2, sTuple, sList, sLZ, sNeg, s1I, fCallU, callU, pairs, argsOf, lends, wb, fApp, appB, chg, mApp, fExt, extB, mExt, fPop, mPop, fPopAt, popB, mPopAt, EE.gTup, gAll, fPar, par, fAug, sIpA, sIpS, sEqI, sNeI, fiRng1, fiRng2, rng1, rng2, fiSeq, iti, itm, fiEnum, enumI, fiZip, zipI, fYes, fLC, lcEnd, fFor, forL, lcL, wipeR, backR, scr, h, hk, h2, c1, c2, c3, c4, hFL, pw18, hc, g1, m1, m2, m3, m4, hn, hn']
        exact ⟨_, _, ho⟩
    · have hn' : ¬ (0 : Int) < ns.length := by omega
      by_cases h2 : (1000000000000000000 : Int) ≤ c
      · conv at ho =>
          rhs
          rw [F__law_box_eq, runF_def, b__law_box_eq]
          simp [rho0, fSeq, fIfS, fB, fOp2, fOp1, fC, fName, slot, Sl.dat, out2, out1, sIx, seqOf_tup, seqOf_lst, atI, ixN, D.isF, D.isFL, Kd.isF, sGt, sLt, sLe, sGe, s2I, tstB, fAsg, asg, gSet, fOwn, own, ownB, fFz, fzz, fCall, faCons, faApp, faNil, outL, rds, sInt, sMod, sDiv, sSub, sAdd, sMul, gStore, isOwn, stB, wbS, fRet, fMv, mv, rtn, lent, fTup, fLst, outTup, outLst, valsOf, fIf, ftNot, ftAnd, ftOr, fAnd, fOr, fNot, fNx, fBk, fCt, fDrop, fRetN, sIsN, D.isN, sIsI, fIsI, tyD, sLen, sAbs, sMax2, sMin2, sTuple, sList, sLZ, sNeg, s1I, fCallU, callU, pairs, argsOf, lends, wb, fApp, appB, chg, mApp, fExt, extB, mExt, fPop, mPop, fPopAt, popB, mPopAt, EE.gTup, gAll, fPar, par, fAug, sIpA, sIpS, sEqI, sNeI, fiRng1, fiRng2, rng1, rng2, fiSeq, iti, itm, fiEnum, enumI, fiZip, zipI, fYes, fLC, lcEnd, fFor, forL, lcL, wipeR, backR, scr, h, hk, h2, c1, c2, c3, c4, hFL, pw18, hc, hn, hn']
        exact ⟨_, _, ho⟩
      · conv at ho =>
          rhs
          rw [F__law_box_eq, runF_def, b__law_box_eq]
          simp [rho0, fSeq, fIfS, fB, fOp2, fOp1, fC, fName, slot, Sl.dat, out2, out1, sIx, seqOf_tup, seqOf_lst, atI, ixN, D.isF, D.isFL, Kd.isF, sGt, sLt, sLe, sGe, s2I, tstB, fAsg, asg, gSet, fOwn, own, ownB, fFz, fzz, fCall, faCons, faApp, faNil, outL, rds, sInt, sMod, sDiv, sSub, sAdd, sMul, gStore, isOwn, stB, wbS, fRet, fMv, mv, rtn, lent, fTup, fLst, outTup, outLst, valsOf, fIf, ftNot, ftAnd, ftOr, fAnd, fOr, fNot, fNx, fBk, fCt, fDrop, fRetN, sIsN, D.isN, sIsI, fIsI, tyD, sLen, sAbs, sMax2, sMin2, sTuple, sList, sLZ, sNeg, s1I, fCallU, callU, pairs, argsOf, lends, wb, fApp, appB, chg, mApp, fExt, extB, mExt, fPop, mPop, fPopAt, popB, mPopAt, EE.gTup, gAll, fPar, par, fAug, sIpA, sIpS, sEqI, sNeI, fiRng1, fiRng2, rng1, rng2, fiSeq, iti, itm, fiEnum, enumI, fiZip, zipI, fYes, fLC, lcEnd, fFor, forL, lcL, wipeR, backR, scr, h, hk, h2, c1, c2, c3, c4, hFL, pw18, hc, hn, hn']
        exact ⟨_, _, ho⟩
/-- the stack of pairs -/
def prs (S : List D) : D := .nd (.lst true) (S.map fun x => .nd .tup [x, x])
theorem szL_pos : ∀ (x : D), 0 < D.sz x
  | .nd k xs => by unfold D.sz; omega
  | .non => by decide
  | .bl _ => by simp [D.sz]
  | .int _ => by simp [D.sz]
  | .str _ => by simp [D.sz]
theorem szL_len : ∀ (S : List D), S.length ≤ D.szL S
  | [] => Nat.le_refl _
  | x :: S => by
    have := szL_len S
    have := szL_pos x
    unfold D.szL
    rw [List.length_cons]; omega
theorem prs_ok {S : List D} (h : ∀ x ∈ S, D.tp 60 x = true) : D.ok 64 (prs S) = true := by
  unfold prs
  simp only [D.ok, kOk, Bool.true_and, List.all_eq_true]
  intro x hx
  obtain ⟨y, hy, rfl⟩ := List.mem_map.mp hx
  have := D.ok_mono (D.tp_ok (h y hy)) (show 60 ≤ 62 by decide)
  simp [D.ok, kOk, this]
theorem like_loop (d e : D) : ∀ (items S : List D) (s3 s4 s5 : Sl), (∃ ns : List Int, items = ns.map D.int) → ((s3 = .un ∧ s4 = .un ∧ s5 = .un) ∨ ∃ a b c, s3 = .dt a ∧ s4 = .dt b ∧ s5 = .dt c) → (∀ x ∈ S, D.tp 60 x = true) → D.szL S < items.length → D.szL S < 1000000 →
    ∃ L a b c, forL (gSet 3) b__law_like_1 items [.dt d, .dt e, .dt (prs S), s3, s4, s5] = .ok (.rt (.bl true)) [.dt d, .dt e, L, a, b, c]
  | [], S, _, _, _, _, _, _, hl, _ => by simp at hl
  | t :: items, S, s3, s4, s5, ⟨ns, hns⟩, hs, hS, hl, hb => by
    cases ns with
    | nil => cases hns
    | cons n ns =>
    rw [List.map_cons] at hns
    injection hns with h1 h2
    subst h1
    rw [forL]
    have hG : gSet 3 (.int n) [.dt d, .dt e, .dt (prs S), s3, s4, s5] = .ok () [.dt d, .dt e, .dt (prs S), .dt (.int n), s4, s5] := by
      rcases hs with ⟨rfl, rfl, rfl⟩ | ⟨a, b, c, rfl, rfl, rfl⟩ <;> rfl
    rw [hG]
    simp only
    have hok := prs_ok hS
    have h45 : (s4 = .un ∧ s5 = .un) ∨ ∃ b c, s4 = .dt b ∧ s5 = .dt c := by
      rcases hs with ⟨rfl, rfl, rfl⟩ | ⟨a, b, c, rfl, rfl, rfl⟩
      · exact .inl ⟨rfl, rfl⟩
      · exact .inr ⟨_, _, rfl, rfl⟩
    clear hs hG
    rcases snoc_cases S with rfl | ⟨S', x, rfl⟩
    · have ho : b__law_like_1 [.dt d, .dt e, .dt (prs []), .dt (.int n), s4, s5] = b__law_like_1 [.dt d, .dt e, .dt (prs []), .dt (.int n), s4, s5] := rfl
      conv at ho =>
        rhs
        rw [b__law_like_1_eq]
        simp [rho0, fSeq, fIfS, fB, fOp2, fOp1, fC, fName, slot, Sl.dat, out2, out1, sIx, seqOf_tup, seqOf_lst, atI, ixN, D.isF, D.isFL, Kd.isF, sGt, sLt, sLe, sGe, s2I, tstB, fAsg, asg, gSet, fOwn, own, ownB, fFz, fzz, fCall, faCons, faApp, faNil, outL, rds, sInt, sMod, sDiv, sSub, sAdd, sMul, gStore, isOwn, stB, wbS, fRet, fMv, mv, rtn, lent, fTup, fLst, outTup, outLst, valsOf, fIf, ftNot, ftAnd, ftOr, fAnd, fOr, fNot, fNx, fBk, fCt, fDrop, fRetN, sIsN, D.isN, sIsI, fIsI, tyD, sLen, sAbs, sMax2, sMin2, sTuple, sList, sLZ, sNeg, s1I, fCallU, callU, pairs, argsOf, lends, wb, fApp, appB, chg, mApp, fExt, extB, mExt, fPop, mPop, fPopAt, popB, mPopAt, EE.gTup, gAll, fPar, par, fAug, sIpA, sIpS, sEqI, sNeI, fiRng1, fiRng2, rng1, rng2, fiSeq, iti, itm, fiEnum, enumI, fiZip, zipI, fYes, fLC, lcEnd, fFor, forL, lcL, wipeR, backR, sEq, prs, D.ok, kOk, D.eqb, kEq, D.eqbL]
      rw [ho]
      exact ⟨_, _, _, _, rfl⟩
    · have hx : D.tp 60 x = true := hS x (by simp)
      have hS' : ∀ y ∈ S', D.tp 60 y = true := fun y hy => hS y (by simp [hy])
      rw [D.szL_append] at hl hb
      simp only [D.szL, Nat.add_zero] at hl hb
      have pos := szL_pos x
      rw [List.length_cons] at hl
      have hox : D.ok 64 x = true := D.ok_mono (D.tp_ok hx) (by decide)
      have hex := D.eqb_refl 60 x hx
      have hxF := D.tp_F hx
      have hln : D.ok 64 (.nd (.lst true) []) = true := rfl
      have hok' : D.ok 64 (.nd (.lst true) (S'.map (fun x => D.nd .tup [x, x]) ++ [.nd .tup [x, x]])) = true := by
        have : prs (S' ++ [x]) = .nd (.lst true) (S'.map (fun x => D.nd .tup [x, x]) ++ [.nd .tup [x, x]]) := by simp [prs]
        rw [← this]; exact hok
      have key : ∃ S2, (∀ y ∈ S2, D.tp 60 y = true) ∧ D.szL S2 < D.szL S' + D.sz x ∧ b__law_like_1 [.dt d, .dt e, .dt (prs (S' ++ [x])), .dt (.int n), s4, s5] = .ok .nx [.dt d, .dt e, .dt (prs S2), .dt (.int n), .dt x, .dt x] := by
        cases x with
        | nd k xs =>
          have hk : k = .tup := by cases k <;> simp_all [D.tp]
          subst hk
          have hxs : ∀ y ∈ xs, D.tp 60 y = true := fun y hy => by
            simp only [D.tp, Bool.and_eq_true, List.all_eq_true] at hx
            exact D.tp_mono (hx.2 y hy) (by decide)
          have hFL : D.isFL xs = true := D.isFL_iff.mpr fun y hy => D.tp_F (hxs y hy)
          have hFL2 : D.isFL (xs.map fun x => D.nd .tup [x, x]) = true := D.isFL_iff.mpr fun y hy => by
            obtain ⟨z, hz, rfl⟩ := List.mem_map.mp hy
            have := D.tp_F (hxs z hz)
            simp [D.isF, D.isFL, Kd.isF, this]
          have l1 := szL_len S'
          have l2 := szL_len xs
          have hsz : D.sz (.nd .tup xs) = 1 + D.szL xs := rfl
          have hlen : S'.length + xs.length ≤ sizeLine := Nat.le_trans (show S'.length + xs.length ≤ 1000000 by omega) (by decide)
          refine ⟨S' ++ xs, fun y hy => (List.mem_append.mp hy).elim (hS' y) (hxs y), by rw [D.szL_append]; omega, ?_⟩
          rcases h45 with ⟨rfl, rfl⟩ | ⟨b4, b5, rfl, rfl⟩
          all_goals
            rw [b__law_like_1_eq]
            simp [rho0, fSeq, fIfS, fB, fOp2, fOp1, fC, fName, slot, Sl.dat, out2, out1, sIx, seqOf_tup, seqOf_lst, atI, ixN, D.isF, D.isFL, Kd.isF, sGt, sLt, sLe, sGe, s2I, tstB, fAsg, asg, gSet, fOwn, own, ownB, fFz, fzz, fCall, faCons, faApp, faNil, outL, rds, sInt, sMod, sDiv, sSub, sAdd, sMul, gStore, isOwn, stB, wbS, fRet, fMv, mv, rtn, lent, fTup, fLst, outTup, outLst, valsOf, fIf, ftNot, ftAnd, ftOr, fAnd, fOr, fNot, fNx, fBk, fCt, fDrop, fRetN, sIsN, D.isN, sIsI, fIsI, tyD, sLen, sAbs, sMax2, sMin2, sTuple, sList, sLZ, sNeg, s1I, fCallU, callU, pairs, argsOf, lends, wb, fApp, appB, chg, mApp, fExt, extB, mExt, fPop, mPop, fPopAt, popB, mPopAt, EE.gTup, gAll, fPar, par, fAug, sIpA, sIpS, sEqI, sNeI, fiRng1, fiRng2, rng1, rng2, fiSeq, iti, itm, fiEnum, enumI, fiZip, zipI, fYes, fLC, lcEnd, fFor, forL, lcL, wipeR, backR, sEq, sNe, prs, hok', hln, D.eqb, kEq, eqbL_nil, hFL, hFL2, hlen, zp_self, kb1, kb2, kb3, kb4, kb5, kb6, kb7, okI]
        | non =>
          refine ⟨S', hS', by omega, ?_⟩
          rcases h45 with ⟨rfl, rfl⟩ | ⟨b4, b5, rfl, rfl⟩
          all_goals
            rw [b__law_like_1_eq]
            simp [rho0, fSeq, fIfS, fB, fOp2, fOp1, fC, fName, slot, Sl.dat, out2, out1, sIx, seqOf_tup, seqOf_lst, atI, ixN, D.isF, D.isFL, Kd.isF, sGt, sLt, sLe, sGe, s2I, tstB, fAsg, asg, gSet, fOwn, own, ownB, fFz, fzz, fCall, faCons, faApp, faNil, outL, rds, sInt, sMod, sDiv, sSub, sAdd, sMul, gStore, isOwn, stB, wbS, fRet, fMv, mv, rtn, lent, fTup, fLst, outTup, outLst, valsOf, fIf, ftNot, ftAnd, ftOr, fAnd, fOr, fNot, fNx, fBk, fCt, fDrop, fRetN, sIsN, D.isN, sIsI, fIsI, tyD, sLen, sAbs, sMax2, sMin2, sTuple, sList, sLZ, sNeg, s1I, fCallU, callU, pairs, argsOf, lends, wb, fApp, appB, chg, mApp, fExt, extB, mExt, fPop, mPop, fPopAt, popB, mPopAt, EE.gTup, gAll, fPar, par, fAug, sIpA, sIpS, sEqI, sNeI, fiRng1, fiRng2, rng1, rng2, fiSeq, iti, itm, fiEnum, enumI, fiZip, zipI, fYes, fLC, lcEnd, fFor, forL, lcL, wipeR, backR, sEq, sNe, prs, hok', hln, D.eqb, kEq, eqbL_nil]
        | bl b =>
          refine ⟨S', hS', by omega, ?_⟩
          rcases h45 with ⟨rfl, rfl⟩ | ⟨b4, b5, rfl, rfl⟩
          all_goals
            rw [b__law_like_1_eq]
            simp [rho0, fSeq, fIfS, fB, fOp2, fOp1, fC, fName, slot, Sl.dat, out2, out1, sIx, seqOf_tup, seqOf_lst, atI, ixN, D.isF, D.isFL, Kd.isF, sGt, sLt, sLe, sGe, s2I, tstB, fAsg, asg, gSet, fOwn, own, ownB, fFz, fzz, fCall, faCons, faApp, faNil, outL, rds, sInt, sMod, sDiv, sSub, sAdd, sMul, gStore, isOwn, stB, wbS, fRet, fMv, mv, rtn, lent, fTup, fLst, outTup, outLst, valsOf, fIf, ftNot, ftAnd, ftOr, fAnd, fOr, fNot, fNx, fBk, fCt, fDrop, fRetN, sIsN, D.isN, sIsI, fIsI, tyD, sLen, sAbs, sMax2, sMin2, sTuple, sList, sLZ, sNeg, s1I, fCallU, callU, pairs, argsOf, lends, wb, fApp, appB, chg, mApp, fExt, extB, mExt, fPop, mPop, fPopAt, popB, mPopAt, EE.gTup, gAll, fPar, par, fAug, sIpA, sIpS, sEqI, sNeI, fiRng1, fiRng2, rng1, rng2, fiSeq, iti, itm, fiEnum, enumI, fiZip, zipI, fYes, fLC, lcEnd, fFor, forL, lcL, wipeR, backR, sEq, sNe, prs, hok', hln, D.eqb, kEq, eqbL_nil, hox, hex, kb1, kb2, kb3, kb4, kb5, kb6, kb7]
        | int i =>
          refine ⟨S', hS', by omega, ?_⟩
          rcases h45 with ⟨rfl, rfl⟩ | ⟨b4, b5, rfl, rfl⟩
          all_goals
            rw [b__law_like_1_eq]
            simp [rho0, fSeq, fIfS, fB, fOp2, fOp1, fC, fName, slot, Sl.dat, out2, out1, sIx, seqOf_tup, seqOf_lst, atI, ixN, D.isF, D.isFL, Kd.isF, sGt, sLt, sLe, sGe, s2I, tstB, fAsg, asg, gSet, fOwn, own, ownB, fFz, fzz, fCall, faCons, faApp, faNil, outL, rds, sInt, sMod, sDiv, sSub, sAdd, sMul, gStore, isOwn, stB, wbS, fRet, fMv, mv, rtn, lent, fTup, fLst, outTup, outLst, valsOf, fIf, ftNot, ftAnd, ftOr, fAnd, fOr, fNot, fNx, fBk, fCt, fDrop, fRetN, sIsN, D.isN, sIsI, fIsI, tyD, sLen, sAbs, sMax2, sMin2, sTuple, sList, sLZ, sNeg, s1I, fCallU, callU, pairs, argsOf, lends, wb, fApp, appB, chg, mApp, fExt, extB, mExt, fPop, mPop, fPopAt, popB, mPopAt, EE.gTup, gAll, fPar, par, fAug, sIpA, sIpS, sEqI, sNeI, fiRng1, fiRng2, rng1, rng2, fiSeq, iti, itm, fiEnum, enumI, fiZip, zipI, fYes, fLC, lcEnd, fFor, forL, lcL, wipeR, backR, sEq, sNe, prs, hok', hln, D.eqb, kEq, eqbL_nil, hox, hex, kb1, kb2, kb3, kb4, kb5, kb6, kb7, kb8, kb9, kb10]
        | str z =>
          refine ⟨S', hS', by omega, ?_⟩
          rcases h45 with ⟨rfl, rfl⟩ | ⟨b4, b5, rfl, rfl⟩
          all_goals
            rw [b__law_like_1_eq]
            simp [rho0, fSeq, fIfS, fB, fOp2, fOp1, fC, fName, slot, Sl.dat, out2, out1, sIx, seqOf_tup, seqOf_lst, atI, ixN, D.isF, D.isFL, Kd.isF, sGt, sLt, sLe, sGe, s2I, tstB, fAsg, asg, gSet, fOwn, own, ownB, fFz, fzz, fCall, faCons, faApp, faNil, outL, rds, sInt, sMod, sDiv, sSub, sAdd, sMul, gStore, isOwn, stB, wbS, fRet, fMv, mv, rtn, lent, fTup, fLst, outTup, outLst, valsOf, fIf, ftNot, ftAnd, ftOr, fAnd, fOr, fNot, fNx, fBk, fCt, fDrop, fRetN, sIsN, D.isN, sIsI, fIsI, tyD, sLen, sAbs, sMax2, sMin2, sTuple, sList, sLZ, sNeg, s1I, fCallU, callU, pairs, argsOf, lends, wb, fApp, appB, chg, mApp, fExt, extB, mExt, fPop, mPop, fPopAt, popB, mPopAt, EE.gTup, gAll, fPar, par, fAug, sIpA, sIpS, sEqI, sNeI, fiRng1, fiRng2, rng1, rng2, fiSeq, iti, itm, fiEnum, enumI, fiZip, zipI, fYes, fLC, lcEnd, fFor, forL, lcL, wipeR, backR, sEq, sNe, prs, hok', hln, D.eqb, kEq, eqbL_nil, hox, hex, kb1, kb2, kb3, kb4, kb5, kb6, kb7, kb8, kb9, kb10]
      obtain ⟨S2, h3, h4, ho⟩ := key
      rw [ho]
      exact like_loop d e items S2 _ _ _ ⟨ns, h2⟩ (.inr ⟨_, _, _, rfl, rfl, rfl⟩) h3 (by omega) (by omega)
theorem like_top (N : Nat) (d : D) (h : D.tp 60 d = true) (hs : D.sz d < N) (hb : D.sz d < 1000000) : ∃ L a b c, forL (gSet 3) b__law_like_1 (EE.upTo 0 N) [.dt d, .dt d, .dt (.nd (.lst true) [.nd .tup [d, d]]), .un, .un, .un] = .ok (.rt (.bl true)) [.dt d, .dt d, L, a, b, c] :=
  like_loop d d (EE.upTo 0 N) [d] .un .un .un ⟨(List.range N).map fun i => (0 + (i : Nat) : Int), by unfold EE.upTo; rw [List.map_map]; rfl⟩ (.inl ⟨rfl, rfl, rfl⟩) (fun x hx => by (have : x = d := by simpa using hx); rw [this]; exact h) (by rw [upTo_len]; unfold D.szL D.szL; exact hs) (by unfold D.szL D.szL; exact hb)
theorem like_mid (N : Int) (d : D) (hF : d.isF = true) (r3 : Sm N) (L a b c : Sl) (e : forL (gSet 3) b__law_like_1 (EE.upTo 0 N.toNat) [.dt d, .dt d, .dt (.nd (.lst true) [.nd .tup [d, d]]), .un, .un, .un] = .ok (.rt (.bl true)) [.dt d, .dt d, L, a, b, c]) :
  (match (fSeq (fAsg (fLst (faCons (fTup (faCons (fOwn (fName 0)) (faCons (fOwn (fName 1)) faNil))) faNil)) (gSet 2)) (fSeq (fFor (fiRng1 (faCons (fC (.int N)) faNil)) (gSet 3) b__law_like_1) (fRet (fC (.bl false))))) (rho0 [false, false] [d, d] 6) with
  | .ok .nx ρ => (match lent [false, false] ρ with | some os => CO.ok .non os | none => .no)
  | .ok (.rt d) ρ => (match lent [false, false] ρ with | some os => .ok d os | none => .no)
  | .err c fs ρ => (match lent [false, false] ρ with | some os => .err c fs os | none => .no)
  | _ => .no) = .ok (.bl true) [.non, .non] := by
  simp [rho0, fSeq, fIfS, fB, fOp2, fOp1, fC, fName, slot, Sl.dat, out2, out1, sIx, seqOf_tup, seqOf_lst, atI, ixN, D.isF, D.isFL, Kd.isF, sGt, sLt, sLe, sGe, s2I, tstB, fAsg, asg, gSet, fOwn, own, ownB, fFz, fzz, fCall, faCons, faApp, faNil, outL, rds, sInt, sMod, sDiv, sSub, sAdd, sMul, gStore, isOwn, stB, wbS, fRet, fMv, mv, rtn, lent, fTup, fLst, outTup, outLst, valsOf, fIf, ftNot, ftAnd, ftOr, fAnd, fOr, fNot, fNx, fBk, fCt, fDrop, fRetN, sIsN, D.isN, sIsI, fIsI, tyD, sLen, sAbs, sMax2, sMin2, sTuple, sList, sLZ, sNeg, s1I, fCallU, callU, pairs, argsOf, lends, wb, fApp, appB, chg, mApp, fExt, extB, mExt, fPop, mPop, fPopAt, popB, mPopAt, EE.gTup, gAll, fPar, par, fAug, sIpA, sIpS, sEqI, sNeI, fiRng1, fiRng2, rng1, rng2, fiSeq, iti, itm, fiEnum, enumI, fiZip, zipI, fYes, fLC, lcEnd, fFor, forL, lcL, wipeR, backR, hF, e, r3, sl2, sl1]

theorem b_like_def : b__law_like = (fSeq (fAsg (fLst (faCons (fTup (faCons (fOwn (fName 0)) (faCons (fOwn (fName 1)) faNil))) faNil)) (gSet 2)) (fSeq (fFor (fiRng1 (faCons (fC (.int 1000000)) faNil)) (gSet 3) b__law_like_1) (fRet (fC (.bl false))))) := rfl
theorem F_like_def : F__law_like = runF [false, false] 6 b__law_like := rfl
theorem like_ok (d : D) (h : D.tp 60 d = true) (hs : D.sz d < 1000000) : F__law_like [d, d] = .ok (.bl true) [.non, .non] := by
  have hF := D.tp_F h
  have r3 : Sm 1000000 := sm_of (by decide) (by decide)
  obtain ⟨L, a, b, c, e⟩ := like_top (Int.toNat (1000000 : Int)) d h (by rw [show Int.toNat (1000000 : Int) = 1000000 by decide]; exact hs) hs
  have m := like_mid 1000000 d hF r3 L a b c e
  rw [F_like_def, runF_def, b_like_def]
  exact m
end K00

namespace K00
open EE
abbrev Pt := List Int
abbrev Wy := List (Int × Int)
def lst (p : Pt) : Int := p.getLastD 0
def nxt (ws : Wy) (p : Pt) : List Pt := (ws.filter fun w => w.1 == lst p && !p.contains w.2).map fun w => p ++ [w.2]
def tr (ws : Wy) (e : Int) : Nat → Pt → List Pt
  | 0, p => if lst p = e then [p] else []
  | k + 1, p => if lst p = e then [p] else (nxt ws p).flatMap (tr ws e k)
def cnt (ws : Wy) (e : Int) : Nat → Pt → Nat
  | 0, _ => 1
  | k + 1, p => if lst p = e then 1 else 1 + ((nxt ws p).map (cnt ws e k)).sum
def trB (ws : Wy) (e : Int) : Nat → Pt → List Pt
  | 0, _ => []
  | k + 1, p => if lst p = e then [p] else (nxt ws p).flatMap (trB ws e k)
theorem lst_app (p : Pt) (x : Int) : lst (p ++ [x]) = x := by simp [lst]
theorem fm_congr {α β : Type} {l : List α} {f g : α → List β} (h : ∀ c ∈ l, f c = g c) : l.flatMap f = l.flatMap g := by
  induction l with
  | nil => rfl
  | cons a l ih => rw [List.flatMap_cons, List.flatMap_cons, h a List.mem_cons_self, ih fun c hc => h c (List.mem_cons_of_mem _ hc)]
theorem trB_eq (ws : Wy) (e : Int) : ∀ (k : Nat) (p : Pt), trB ws e (k + 1) p = tr ws e k p
  | 0, p => by
    unfold trB tr
    have : (nxt ws p).flatMap (trB ws e 0) = [] := by
      rw [List.flatMap_eq_nil_iff]
      intro x _; rfl
    rw [this]
  | k + 1, p => by
    rw [trB, tr]
    have : trB ws e (k + 1) = tr ws e k := funext fun x => trB_eq ws e k x
    rw [this]
theorem nxt_len {ws : Wy} {p q : Pt} (h : q ∈ nxt ws p) : q.length = p.length + 1 := by
  obtain ⟨w, _, rfl⟩ := List.mem_map.mp h
  simp
theorem tr_len {ws : Wy} {e : Int} : ∀ {k : Nat} {p q : Pt}, q ∈ tr ws e k p → p.length ≤ q.length
  | 0, p, q, h => by
    unfold tr at h
    split at h
    · rw [List.mem_singleton.mp h]; exact Nat.le_refl _
    · cases h
  | k + 1, p, q, h => by
    rw [tr] at h
    split at h
    · rw [List.mem_singleton.mp h]; exact Nat.le_refl _
    · obtain ⟨c, hc, hq⟩ := List.mem_flatMap.mp h
      have := tr_len hq
      have := nxt_len hc
      omega
theorem tr_filter (ws : Wy) (e : Int) (m : Nat) : ∀ (k j : Nat) (p : Pt), p.length + j = m + 1 → j ≤ k → (tr ws e k p).filter (fun q => decide (q.length ≤ m + 1)) = tr ws e j p
  | 0, j, p, h1, h2 => by
    have : j = 0 := by omega
    subst this
    unfold tr
    split
    · rw [List.filter_cons_of_pos (by simp; omega)]; rfl
    · rfl
  | k + 1, j, p, h1, h2 => by
    rw [tr]
    by_cases hl : lst p = e
    · rw [if_pos hl, List.filter_cons_of_pos (by simp; omega)]
      cases j with
      | zero => rw [tr, if_pos hl]; rfl
      | succ j => rw [tr, if_pos hl]; rfl
    · rw [if_neg hl]
      cases j with
      | zero =>
        rw [tr, if_neg hl, List.filter_eq_nil_iff]
        intro q hq
        obtain ⟨c, hc, hq⟩ := List.mem_flatMap.mp hq
        have := tr_len hq
        have := nxt_len hc
        simp; omega
      | succ j =>
        rw [tr, if_neg hl, List.filter_flatMap]
        have : ∀ c ∈ nxt ws p, (tr ws e k c).filter (fun q => decide (q.length ≤ m + 1)) = tr ws e j c := fun c hc => tr_filter ws e m k j c (by rw [nxt_len hc]; omega) (by omega)
        exact fm_congr this
/-- no way leads further than there are houses -/
def inR (n : Nat) (p : Pt) : Prop := p.Nodup ∧ ∀ x ∈ p, 0 ≤ x ∧ x < n
theorem inR_len {n : Nat} {p : Pt} (h : inR n p) : p.length ≤ n := by
  have h1 : (p.map Int.toNat).Nodup := by
    refine List.Pairwise.map _ (fun a b hab => ?_) (List.pairwise_iff_forall_sublist.mpr fun {a b} hs => ?_) (R := fun a b : Int => a ≠ b ∧ 0 ≤ a ∧ 0 ≤ b)
    · omega
    · have hm : a ∈ p ∧ b ∈ p := ⟨hs.subset (by simp), hs.subset (by simp)⟩
      refine ⟨?_, (h.2 a hm.1).1, (h.2 b hm.2).1⟩
      have := List.pairwise_iff_forall_sublist.mp h.1 hs
      exact this
  have h2 : ∀ x ∈ p.map Int.toNat, x ∈ List.range n := fun x hx => by
    obtain ⟨y, hy, rfl⟩ := List.mem_map.mp hx
    have := h.2 y hy
    rw [List.mem_range]; omega
  have := List.Nodup.length_le_of_subset h1 h2
  simpa using this
theorem nxt_inR {n : Nat} {ws : Wy} {p c : Pt} (hw : ∀ w ∈ ws, 0 ≤ w.2 ∧ w.2 < n) (h : inR n p) (hc : c ∈ nxt ws p) : inR n c := by
  obtain ⟨w, hw', rfl⟩ := List.mem_map.mp hc
  obtain ⟨h1, h2⟩ := List.mem_filter.mp hw'
  simp only [Bool.and_eq_true, Bool.not_eq_true', List.contains_eq_mem, decide_eq_false_iff_not] at h2
  refine ⟨List.nodup_append.mpr ⟨h.1, by simp, fun a ha b hb q => ?_⟩, fun x hx => ?_⟩
  · rw [List.mem_singleton.mp hb] at q
    exact h2.2 (q ▸ ha)
  · rcases List.mem_append.mp hx with hx | hx
    · exact h.2 x hx
    · rw [List.mem_singleton.mp hx]; exact hw w h1
theorem tr_more {n : Nat} {ws : Wy} {e : Int} (hw : ∀ w ∈ ws, 0 ≤ w.2 ∧ w.2 < n) : ∀ (k : Nat) (p : Pt), inR n p → n ≤ p.length + k → tr ws e (k + 1) p = tr ws e k p
  | 0, p, h, hl => by
    have : nxt ws p = [] := by
      cases hn : nxt ws p with
      | nil => rfl
      | cons c r =>
        have hc : c ∈ nxt ws p := by rw [hn]; exact List.mem_cons_self
        have := inR_len (nxt_inR hw h hc)
        have := nxt_len hc
        omega
    rw [tr, tr, this]; rfl
  | k + 1, p, h, hl => by
    rw [tr]
    conv => rhs; rw [tr]
    have : ∀ c ∈ nxt ws p, tr ws e (k + 1) c = tr ws e k c := fun c hc => tr_more hw k c (nxt_inR hw h hc) (by rw [nxt_len hc]; omega)
    rw [fm_congr this]
theorem tr_short {n m : Nat} {ws : Wy} {e s : Int} (hw : ∀ w ∈ ws, 0 ≤ w.2 ∧ w.2 < n) (hs : 0 ≤ s ∧ s < n) (hm : m ≤ n) : (trB ws e n [s]).filter (fun q => decide (q.length ≤ m + 1)) = tr ws e m [s] := by
  have hn : 0 < n := by omega
  obtain ⟨k, rfl⟩ : ∃ k, n = k + 1 := ⟨n - 1, by omega⟩
  rw [trB_eq]
  by_cases h : m ≤ k
  · exact tr_filter ws e m k m [s] (by simp; omega) h
  · have : m = k + 1 := by omega
    subst this
    rw [← tr_more hw k [s] ⟨by simp, fun x hx => by rw [List.mem_singleton.mp hx]; exact hs⟩ (by simp; omega)]
    exact tr_filter ws e (k + 1) (k + 1) (k + 1) [s] (by simp; omega) (Nat.le_refl _)
/-! sorting -/
def le (p q : Pt) : Bool := decide (p ≤ q)
def srt (l : List Pt) : List Pt := l.mergeSort le
theorem le_trans' (a b c : Pt) : le a b = true → le b c = true → le a c = true := by
  simp only [le, decide_eq_true_eq]; exact List.le_trans
theorem le_total' (a b : Pt) : (le a b || le b a) = true := by
  simp only [le, Bool.or_eq_true, decide_eq_true_eq]; exact List.le_total a b
theorem uniq : ∀ {l1 l2 : List Pt}, l1.Perm l2 → l1.Pairwise (fun a b => le a b = true) → l2.Pairwise (fun a b => le a b = true) → l1 = l2 := by
  intro l1 l2 hp h1 h2
  exact List.Perm.eq_of_pairwise (fun a b _ _ x y => List.le_antisymm (of_decide_eq_true x) (of_decide_eq_true y)) h1 h2 hp
theorem srt_sorted (l : List Pt) : (srt l).Pairwise (fun a b => le a b = true) := List.pairwise_mergeSort le_trans' le_total' l
theorem srt_perm {l1 l2 : List Pt} (h : l1.Perm l2) : srt l1 = srt l2 :=
  uniq ((List.mergeSort_perm l1 le).trans (h.trans (List.mergeSort_perm l2 le).symm)) (srt_sorted l1) (srt_sorted l2)
theorem srt_filter (l : List Pt) (f : Pt → Bool) : (srt l).filter f = srt (l.filter f) :=
  uniq (((List.mergeSort_perm l le).filter f).trans (List.mergeSort_perm (l.filter f) le).symm) ((srt_sorted l).filter f) (srt_sorted _)
end K00

namespace K00
open PySem PySem.Spec
open PyProof.Rows hiding St
open L2 EE
abbrev em (p : Pt) : D := .nd .tup (iL p)
def wy (w : Int × Int) : D := .nd .tup [.int w.1, .int w.2]
def netD (n : Int) (ws : Wy) : D := .nd .tup [.int n, .nd .tup (ws.map wy)]
theorem emF (l : List Pt) : D.isFL (l.map em) = true := D.isFL_iff.mpr fun x hx => by
  obtain ⟨p, _, rfl⟩ := List.mem_map.mp hx
  show (true && D.isFL (iL p)) = true
  rw [iL_F]; rfl
theorem wyF (ws : Wy) : D.isFL (ws.map wy) = true := D.isFL_iff.mpr fun x hx => by
  obtain ⟨w, _, rfl⟩ := List.mem_map.mp hx; rfl
theorem netF (n : Int) (ws : Wy) : (netD n ws).isF = true := by
  have := wyF ws
  unfold netD
  simp [rho0, fSeq, fIfS, fB, fOp2, fOp1, fC, fName, slot, Sl.dat, out2, out1, sIx, seqOf_tup, seqOf_lst, atI, ixN, D.isF, D.isFL, Kd.isF, sGt, sLt, sLe, sGe, s2I, tstB, fAsg, asg, gSet, fOwn, own, ownB, fFz, fzz, fCall, faCons, faApp, faNil, outL, rds, sInt, sMod, sDiv, sSub, sAdd, sMul, gStore, isOwn, stB, wbS, fRet, fMv, mv, rtn, lent, fTup, fLst, outTup, outLst, valsOf, fIf, ftNot, ftAnd, ftOr, fAnd, fOr, fNot, fNx, fBk, fCt, fDrop, fRetN, sIsN, D.isN, sIsI, fIsI, tyD, sLen, sAbs, sMax2, sMin2, sTuple, sList, sLZ, sNeg, s1I, fCallU, callU, pairs, argsOf, lends, wb, fApp, appB, chg, mApp, fExt, extB, mExt, fPop, mPop, fPopAt, popB, mPopAt, EE.gTup, gAll, fPar, par, fAug, sIpA, sIpS, sEqI, sNeI, fiRng1, fiRng2, rng1, rng2, fiSeq, iti, itm, fiEnum, enumI, fiZip, zipI, fYes, fLC, lcEnd, fFor, forL, lcL, wipeR, backR, this]
/-! sorted of rows -/
theorem dLe_em (p q : Pt) : dLe (em p) (em q) = le p q := by
  have h := PySem.W.dataLe_rows (β := Pt) (fun p => p)
  have e : ∀ l : Pt, toPyL (iL l) = l.map PyData.int := fun l => by rw [toPyL_map, List.map_map]; rfl
  have h2 : (!PySem.W.dataLt (.list (q.map PyData.int)) (.list (p.map PyData.int))) = decide (p ≤ q) := congrFun (congrFun h p) q
  show (!PySem.W.dataLt (toPy (em q)) (toPy (em p))) = _
  have t : ∀ a b : Pt, PySem.W.dataLt (toPy (em a)) (toPy (em b)) = PySem.W.dataLt (.list (a.map PyData.int)) (.list (b.map PyData.int)) := fun a b => by
    show PySem.W.dataLt (.tuple (toPyL (iL a))) (.tuple (toPyL (iL b))) = _
    rw [e, e, PySem.W.dataLt_tuple, PySem.W.dataLt_list]
  rw [t]
  exact h2
theorem em_srt (l : List Pt) : (l.map em).mergeSort dLe = (srt l).map em := (List.map_mergeSort (r := le) (s := dLe) (f := em) (l := l) (fun a _ b _ => (dLe_em a b).symm)).symm
theorem toPy_em (p : Pt) : toPy (em p) = .tuple (p.map PyData.int) := by
  show PyData.tuple (toPyL (iL p)) = _
  rw [toPyL_map, List.map_map]; rfl
theorem srt_ok (l : List Pt) (h : ∀ p ∈ l, p ≠ []) (hl : l.length ≤ sizeLine) : Srt (l.map em) := by
  refine ⟨?_, .inl ?_, ?_, by simpa using hl, emF l⟩
  · rw [List.map_map]
    intro d hd d' hd'
    obtain ⟨b, _, rfl⟩ := List.mem_map.mp hd
    obtain ⟨b', _, rfl⟩ := List.mem_map.mp hd'
    show PySem.W.alike (toPy (em b)) (toPy (em b')) = true
    rw [toPy_em, toPy_em]
    show PySem.W.alikeAll _ _ = true
    exact PySem.W.alike_ints b b'
  · rw [List.map_map]
    intro d hd
    obtain ⟨b, hb, rfl⟩ := List.mem_map.mp hd
    have := h b hb
    cases b with
    | nil => exact absurd rfl this
    | cons x r => exact ⟨.int x, r.map PyData.int, toPy_em (x :: r)⟩
  · intro x hx
    obtain ⟨p, _, rfl⟩ := List.mem_map.mp hx
    show (kOk .tup && (iL p).all (D.ok 59)) = true
    simp [kOk, D.ok]
/-! spoken_to -/
def sp (ws : Wy) (h : Int) : List Int := (ws.filter fun w => w.1 == h).map (·.2)
theorem sp_loop (N : D) (h : Int) : ∀ (ws : Wy) (acc : List Int), acc.length + ws.length < 1000 →
    lcL (EE.gTup [gSet 2, gSet 3]) b_spoken_to_2 b_spoken_to_1 [2, 3] (ws.map wy) (iL acc) [.dt N, .dt (.int h), .un, .un] = .ok (iL (acc ++ sp ws h)) [.dt N, .dt (.int h), .un, .un]
  | [], acc, _ => by simp [sp, lcL]
  | w :: ws, acc, hl => by
    rw [List.length_cons] at hl
    rw [List.map_cons, lcL]
    have hG : EE.gTup [gSet 2, gSet 3] (wy w) [.dt N, .dt (.int h), .un, .un] = .ok () [.dt N, .dt (.int h), .dt (.int w.1), .dt (.int w.2)] := rfl
    rw [hG]
    dsimp only
    have hT : b_spoken_to_2 [.dt N, .dt (.int h), .dt (.int w.1), .dt (.int w.2)] = .ok (w.1 == h) [.dt N, .dt (.int h), .dt (.int w.1), .dt (.int w.2)] := by
      rw [b_spoken_to_2_eq]
      simp [rho0, fSeq, fIfS, fB, fOp2, fOp1, fC, fName, slot, Sl.dat, out2, out1, sIx, seqOf_tup, seqOf_lst, atI, ixN, D.isF, D.isFL, Kd.isF, sGt, sLt, sLe, sGe, s2I, tstB, fAsg, asg, gSet, fOwn, own, ownB, fFz, fzz, fCall, faCons, faApp, faNil, outL, rds, sInt, sMod, sDiv, sSub, sAdd, sMul, gStore, isOwn, stB, wbS, fRet, fMv, mv, rtn, lent, fTup, fLst, outTup, outLst, valsOf, fIf, ftNot, ftAnd, ftOr, fAnd, fOr, fNot, fNx, fBk, fCt, fDrop, fRetN, sIsN, D.isN, sIsI, fIsI, tyD, sLen, sAbs, sMax2, sMin2, sTuple, sList, sLZ, sNeg, s1I, fCallU, callU, pairs, argsOf, lends, wb, fApp, appB, chg, mApp, fExt, extB, mExt, fPop, mPop, fPopAt, popB, mPopAt, EE.gTup, gAll, fPar, par, fAug, sIpA, sIpS, sEqI, sNeI, fiRng1, fiRng2, rng1, rng2, fiSeq, iti, itm, fiEnum, enumI, fiZip, zipI, fYes, fLC, lcEnd, fFor, forL, lcL, wipeR, backR, ]
    have hE : b_spoken_to_1 [.dt N, .dt (.int h), .dt (.int w.1), .dt (.int w.2)] = .ok (.val (.int w.2)) [.dt N, .dt (.int h), .dt (.int w.1), .dt (.int w.2)] := by
      rw [b_spoken_to_1_eq]
      simp [rho0, fSeq, fIfS, fB, fOp2, fOp1, fC, fName, slot, Sl.dat, out2, out1, sIx, seqOf_tup, seqOf_lst, atI, ixN, D.isF, D.isFL, Kd.isF, sGt, sLt, sLe, sGe, s2I, tstB, fAsg, asg, gSet, fOwn, own, ownB, fFz, fzz, fCall, faCons, faApp, faNil, outL, rds, sInt, sMod, sDiv, sSub, sAdd, sMul, gStore, isOwn, stB, wbS, fRet, fMv, mv, rtn, lent, fTup, fLst, outTup, outLst, valsOf, fIf, ftNot, ftAnd, ftOr, fAnd, fOr, fNot, fNx, fBk, fCt, fDrop, fRetN, sIsN, D.isN, sIsI, fIsI, tyD, sLen, sAbs, sMax2, sMin2, sTuple, sList, sLZ, sNeg, s1I, fCallU, callU, pairs, argsOf, lends, wb, fApp, appB, chg, mApp, fExt, extB, mExt, fPop, mPop, fPopAt, popB, mPopAt, EE.gTup, gAll, fPar, par, fAug, sIpA, sIpS, sEqI, sNeI, fiRng1, fiRng2, rng1, rng2, fiSeq, iti, itm, fiEnum, enumI, fiZip, zipI, fYes, fLC, lcEnd, fFor, forL, lcL, wipeR, backR, ]
    rw [hT]
    cases hw : w.1 == h with
    | true =>
      dsimp only
      rw [hE]
      dsimp only
      rw [if_pos (by rw [List.length_map]; exact Nat.lt_of_lt_of_le (show acc.length < 1000 by omega) (by decide))]
      have ih := sp_loop N h ws (acc ++ [w.2]) (by simp; omega)
      have e : iL (acc ++ [w.2]) = iL acc ++ [.int w.2] := by simp
      rw [e] at ih
      have e2 : acc ++ sp (w :: ws) h = acc ++ [w.2] ++ sp ws h := by simp [sp, hw]
      rw [e2]
      exact ih
    | false =>
      dsimp only
      have ih := sp_loop N h ws acc (by omega)
      have e2 : sp (w :: ws) h = sp ws h := by simp [sp, hw]
      rw [e2]
      exact ih
theorem spoken_ok (n h : Int) (ws : Wy) (hl : ws.length < 1000) : F_spoken_to [netD n ws, .int h] = .ok (.nd .tup (iL (sp ws h))) [.non, .non] := by
  have e := sp_loop (netD n ws) h ws [] (by simpa using hl)
  rw [List.nil_append] at e
  have e : lcL (EE.gTup [gSet 2, gSet 3]) b_spoken_to_2 b_spoken_to_1 [2, 3] (ws.map wy) [] [.dt (.nd .tup [.int n, .nd .tup (ws.map wy)]), .dt (.int h), .un, .un] = _ := e
  have f1 := wyF ws
  have f2 := iL_F (sp ws h)
  rw [F_spoken_to_eq, runF_def, b_spoken_to_eq]
  unfold netD at e ⊢
  simp [rho0, fSeq, fIfS, fB, fOp2, fOp1, fC, fName, slot, Sl.dat, out2, out1, sIx, seqOf_tup, seqOf_lst, atI, ixN, D.isF, D.isFL, Kd.isF, sGt, sLt, sLe, sGe, s2I, tstB, fAsg, asg, gSet, fOwn, own, ownB, fFz, fzz, fCall, faCons, faApp, faNil, outL, rds, sInt, sMod, sDiv, sSub, sAdd, sMul, gStore, isOwn, stB, wbS, fRet, fMv, mv, rtn, lent, fTup, fLst, outTup, outLst, valsOf, fIf, ftNot, ftAnd, ftOr, fAnd, fOr, fNot, fNx, fBk, fCt, fDrop, fRetN, sIsN, D.isN, sIsI, fIsI, tyD, sLen, sAbs, sMax2, sMin2, sTuple, sList, sLZ, sNeg, s1I, fCallU, callU, pairs, argsOf, lends, wb, fApp, appB, chg, mApp, fExt, extB, mExt, fPop, mPop, fPopAt, popB, mPopAt, EE.gTup, gAll, fPar, par, fAug, sIpA, sIpS, sEqI, sNeI, fiRng1, fiRng2, rng1, rng2, fiSeq, iti, itm, fiEnum, enumI, fiZip, zipI, fYes, fLC, lcEnd, fFor, forL, lcL, wipeR, backR, f1, f2, e]
end K00

namespace K00
open PySem PySem.Spec
open PyProof.Rows hiding St
open L2 EE
theorem nxt_sp (p : Pt) : ∀ ws : Wy, nxt ws p = ((sp ws (lst p)).filter fun h => !p.contains h).map fun h => p ++ [h]
  | [] => rfl
  | w :: ws => by
    have ih := nxt_sp p ws
    by_cases h1 : (w.1 == lst p) = true
    · have e1 : sp (w :: ws) (lst p) = w.2 :: sp ws (lst p) := by
        unfold sp
        rw [List.filter_cons_of_pos (p := fun w : Int × Int => w.1 == lst p) (l := ws) h1]; rfl
      rw [e1]
      by_cases h2 : p.contains w.2 = true
      · rw [List.filter_cons_of_neg (by rw [h2]; decide), ← ih]
        unfold nxt
        rw [List.filter_cons_of_neg (p := fun w : Int × Int => w.1 == lst p && !p.contains w.2) (l := ws) (by show ¬ (w.1 == lst p && !p.contains w.2) = true; rw [h1, h2]; decide)]
      · have h2' : p.contains w.2 = false := by simpa using h2
        rw [List.filter_cons_of_pos (by rw [h2']; decide), List.map_cons, ← ih]
        unfold nxt
        rw [List.filter_cons_of_pos (p := fun w : Int × Int => w.1 == lst p && !p.contains w.2) (l := ws) (by show (w.1 == lst p && !p.contains w.2) = true; rw [h1, h2']; decide), List.map_cons]
    · have h1' : (w.1 == lst p) = false := by simpa using h1
      have e1 : sp (w :: ws) (lst p) = sp ws (lst p) := by
        unfold sp
        rw [List.filter_cons_of_neg (p := fun w : Int × Int => w.1 == lst p) (l := ws) h1]
      rw [e1, ← ih]
      unfold nxt
      rw [List.filter_cons_of_neg (p := fun w : Int × Int => w.1 == lst p && !p.contains w.2) (l := ws) (by show ¬ (w.1 == lst p && !p.contains w.2) = true; rw [h1']; simp)]
theorem lst_at {p : Pt} (h : p ≠ []) : p[p.length - 1]? = some (lst p) := by
  unfold lst
  rw [← List.getLast?_eq_getElem?]
  cases p with
  | nil => exact absurd rfl h
  | cons x r => simp [List.getLast?_cons]
theorem ixLast {p : Pt} (h : p ≠ []) : sIx (em p) (.int (-1)) = some (.int (lst p)) := by
  have hl : 0 < p.length := List.length_pos_iff.mpr h
  have e := lst_at h
  have h1 : ixN (iL p).length (-1) = some (p.length - 1) := by
    unfold ixN
    rw [if_neg (by decide), if_pos (by rw [List.length_map]; omega)]
    congr 1
    rw [List.length_map]; omega
  unfold sIx
  rw [seqOf_tup]
  show (match (ixN (iL p).length (-1)).bind fun j => (iL p)[j]? with | some d => if d.isF = true then some d else none | none => none) = _
  rw [h1]
  show (match (iL p)[p.length - 1]? with | some d => if d.isF = true then some d else none | none => none) = _
  rw [List.getElem?_map, e]; rfl
theorem inInts (x : Int) (p : Pt) (neg : Bool) : sIn neg (.int x) (em p) = some (.bl (if neg then !p.contains x else p.contains x)) := by
  unfold sIn
  rw [seqOf_tup]
  dsimp only
  have h1 : (iL p).all (D.ok 64) = true := by simp [D.ok]
  rw [if_pos ⟨okI 64 x, h1⟩]
  have h2 : ((iL p).any fun z => D.eqb z (.int x)) = p.contains x := by
    rw [List.any_map]
    induction p with
    | nil => rfl
    | cons y p ih =>
      rw [List.any_cons, ih (by simp [D.ok]), List.contains_cons]
      show (D.eqb (.int y) (.int x) || p.contains x) = _
      have : D.eqb (.int y) (.int x) = (x == y) := by
        show (y == x) = _
        exact Bool.beq_comm
      rw [this]
  rw [h2]
theorem app1 (p : Pt) (x : Int) (h : p.length < 1000) : sAdd (em p) (.nd .tup [.int x]) = some (em (p ++ [x])) := by
  have := iL_F p
  have hs : p.length + 1 ≤ sizeLine := Nat.le_trans (show p.length + 1 ≤ 1000 by omega) (by decide)
  unfold sAdd
  dsimp only
  rw [if_pos ⟨by simpa using hs, this, rfl⟩]
  simp
theorem kids_loop (N S E M F L : D) (p : Pt) (hp : p.length < 1000) : ∀ (hs : List Int) (acc : List Pt), acc.length + hs.length < 10000000 →
    lcL (gSet 7) b_short_trails_2 b_short_trails_1 [7] (iL hs) (acc.map em) [.dt N, .dt S, .dt E, .dt M, .dt F, .dt L, .dt (em p), .un] =
      .ok ((acc ++ (hs.filter fun h => !p.contains h).map fun h => p ++ [h]).map em) [.dt N, .dt S, .dt E, .dt M, .dt F, .dt L, .dt (em p), .un]
  | [], acc, _ => by simp [lcL]
  | h :: hs, acc, hl => by
    rw [List.length_cons] at hl
    rw [show iL (h :: hs) = .int h :: iL hs from rfl, lcL]
    have hG : gSet 7 (.int h) [.dt N, .dt S, .dt E, .dt M, .dt F, .dt L, .dt (em p), .un] = .ok () [.dt N, .dt S, .dt E, .dt M, .dt F, .dt L, .dt (em p), .dt (.int h)] := rfl
    rw [hG]
    dsimp only
    have i1 := inInts h p true
    have hT : b_short_trails_2 [.dt N, .dt S, .dt E, .dt M, .dt F, .dt L, .dt (em p), .dt (.int h)] = .ok (!p.contains h) [.dt N, .dt S, .dt E, .dt M, .dt F, .dt L, .dt (em p), .dt (.int h)] := by
      rw [b_short_trails_2_eq]
      simp [rho0, fSeq, fIfS, fB, fOp2, fOp1, fC, fName, slot, Sl.dat, out2, out1, sIx, seqOf_tup, seqOf_lst, atI, ixN, D.isF, D.isFL, Kd.isF, sGt, sLt, sLe, sGe, s2I, tstB, fAsg, asg, gSet, fOwn, own, ownB, fFz, fzz, fCall, faCons, faApp, faNil, outL, rds, sInt, sMod, sDiv, sSub, sAdd, sMul, gStore, isOwn, stB, wbS, fRet, fMv, mv, rtn, lent, fTup, fLst, outTup, outLst, valsOf, fIf, ftNot, ftAnd, ftOr, fAnd, fOr, fNot, fNx, fBk, fCt, fDrop, fRetN, sIsN, D.isN, sIsI, fIsI, tyD, sLen, sAbs, sMax2, sMin2, sTuple, sList, sLZ, sNeg, s1I, fCallU, callU, pairs, argsOf, lends, wb, fApp, appB, chg, mApp, fExt, extB, mExt, fPop, mPop, fPopAt, popB, mPopAt, EE.gTup, gAll, fPar, par, fAug, sIpA, sIpS, sEqI, sNeI, fiRng1, fiRng2, rng1, rng2, fiSeq, iti, itm, fiEnum, enumI, fiZip, zipI, fYes, fLC, lcEnd, fFor, forL, lcL, wipeR, backR, i1]
    have a1 := app1 p h hp
    have hE : b_short_trails_1 [.dt N, .dt S, .dt E, .dt M, .dt F, .dt L, .dt (em p), .dt (.int h)] = .ok (.val (em (p ++ [h]))) [.dt N, .dt S, .dt E, .dt M, .dt F, .dt L, .dt (em p), .dt (.int h)] := by
      rw [b_short_trails_1_eq]
      simp only [fOp2, fName, slot, Sl.dat, fTup, faCons, fOwn, own, ownB, faNil, Out.bind_ok, outTup, valsOf, List.getElem?_cons_succ, List.getElem?_cons_zero, D.isF, if_true, List.length_cons, List.length_nil, Nat.zero_add, if_pos sl1, out2, rd, a1]
    cases hc : p.contains h with
    | true =>
      rw [hc] at hT
      have hT : _ = Out.ok false _ := hT
      rw [hT]
      show lcL (gSet 7) b_short_trails_2 b_short_trails_1 [7] (iL hs) (acc.map em) [.dt N, .dt S, .dt E, .dt M, .dt F, .dt L, .dt (em p), .un] = _
      rw [kids_loop N S E M F L p hp hs acc (by omega), List.filter_cons_of_neg (by rw [hc]; decide)]
    | false =>
      rw [hc] at hT
      have hT : _ = Out.ok true _ := hT
      rw [hT]
      dsimp only
      rw [hE]
      dsimp only
      rw [if_pos (by rw [List.length_map]; exact Nat.lt_of_lt_of_le (show acc.length < 10000000 by omega) (by decide))]
      have ih := kids_loop N S E M F L p hp hs (acc ++ [p ++ [h]]) (by simp; omega)
      rw [List.map_append] at ih
      rw [List.filter_cons_of_pos (by rw [hc]; decide), List.map_cons]
      have e : acc ++ (p ++ [h]) :: (hs.filter fun h => !p.contains h).map (fun h => p ++ [h]) = acc ++ [p ++ [h]] ++ (hs.filter fun h => !p.contains h).map fun h => p ++ [h] := by simp
      rw [e]
      exact ih
end K00

namespace K00
open PySem PySem.Spec
open PyProof.Rows hiding St
open L2 EE
abbrev lD (l : List Pt) : D := .nd (.lst true) (l.map em)
abbrev rho1 (n : Int) (ws : Wy) (s e : Int) (m : Nat) (f l : List Pt) (s6 : Sl) : Rho := [.dt (netD n ws), .dt (.int s), .dt (.int e), .dt (.int m), .dt (lD f), .dt (lD l), s6, .un]
theorem sp_len (ws : Wy) (h : Int) : (sp ws h).length ≤ ws.length := by
  unfold sp
  rw [List.length_map]; exact List.length_filter_le _ _
theorem em_F (p : Pt) : (em p).isF = true := by
  show (true && D.isFL (iL p)) = true
  rw [iL_F]; rfl
theorem st_step (n s e : Int) (ws : Wy) (m : Nat) (f L : List Pt) (p : Pt) (s6 : Sl) (h6 : s6 = .un ∨ ∃ x, s6 = .dt x) (hp : p ≠ []) (hpl : p.length < 1000) (hw : ws.length < 1000) (hf : f.length < 10000000) (hL : L.length < 10000000) :
    b_short_trails_3 (rho1 n ws s e m f (L ++ [p]) s6) = .ok .nx (if lst p = e then rho1 n ws s e m (f ++ [p]) L (.dt (em p)) else if p.length ≤ m then rho1 n ws s e m f (L ++ nxt ws p) (.dt (em p)) else rho1 n ws s e m f L (.dt (em p))) := by
  have ix := ixLast hp
  have hF := em_F p
  have nF := netF n ws
  have s1 : f.length < sizeLine := Nat.lt_of_lt_of_le hf (by decide)
  have e0 : b_short_trails_3 (rho1 n ws s e m f (L ++ [p]) s6) = b_short_trails_3 (rho1 n ws s e m f (L ++ [p]) s6) := rfl
  have hpop : fAsg (fPop 5) (gSet 6) (rho1 n ws s e m f (L ++ [p]) s6) = .ok .nx (rho1 n ws s e m f L (.dt (em p))) := by
    unfold rho1 lD
    rcases h6 with rfl | ⟨x, rfl⟩ <;> simp [rho0, fSeq, fIfS, fB, fOp2, fOp1, fC, fName, slot, Sl.dat, out2, out1, sIx, seqOf_tup, seqOf_lst, atI, ixN, D.isF, D.isFL, Kd.isF, sGt, sLt, sLe, sGe, s2I, tstB, fAsg, asg, gSet, fOwn, own, ownB, fFz, fzz, fCall, faCons, faApp, faNil, outL, rds, sInt, sMod, sDiv, sSub, sAdd, sMul, gStore, isOwn, stB, wbS, fRet, fMv, mv, rtn, lent, fTup, fLst, outTup, outLst, valsOf, fIf, ftNot, ftAnd, ftOr, fAnd, fOr, fNot, fNx, fBk, fCt, fDrop, fRetN, sIsN, D.isN, sIsI, fIsI, tyD, sLen, sAbs, sMax2, sMin2, sTuple, sList, sLZ, sNeg, s1I, fCallU, callU, pairs, argsOf, lends, wb, fApp, appB, chg, mApp, fExt, extB, mExt, fPop, mPop, fPopAt, popB, mPopAt, EE.gTup, gAll, fPar, par, fAug, sIpA, sIpS, sEqI, sNeI, fiRng1, fiRng2, rng1, rng2, fiSeq, iti, itm, fiEnum, enumI, fiZip, zipI, fYes, fLC, lcEnd, fFor, forL, lcL, wipeR, backR, ]
  rw [b_short_trails_3_eq]
  show sq (fAsg (fPop 5) (gSet 6) (rho1 n ws s e m f (L ++ [p]) s6)) _ = _
  rw [hpop, sq_nx]
  by_cases h1 : lst p = e
  · rw [if_pos h1]
    unfold rho1 lD
    have h1' : (lst p == e) = true := by simpa using h1
    simp only [fIfS, fB, fOp2, fName, slot, Sl.dat, fOp1, fC, out1, sNeg, s1I, out2, rd, Out.bind_ok, tstB, fDrop, fApp, isOwn, fOwn, own, ownB, appB, chg, mApp, List.getElem?_cons_succ, List.getElem?_cons_zero, ix, sEqI, h1', if_true, hF, List.length_map, s1, List.set_cons_succ, List.set_cons_zero, wbS, List.map_append, List.map_cons, List.map_nil]
  · rw [if_neg h1]
    have h1' : (lst p == e) = false := by simpa using h1
    by_cases h2 : p.length ≤ m
    · rw [if_pos h2]
      have e1 := spoken_ok n (lst p) ws hw
      have e2 := kids_loop (netD n ws) (.int s) (.int e) (.int m) (lD f) (lD L) p hpl (sp ws (lst p)) [] (by have := sp_len ws (lst p); simp; omega)
      rw [List.nil_append, ← nxt_sp] at e2
      have e2 : lcL (gSet 7) b_short_trails_2 b_short_trails_1 [7] (iL (sp ws (lst p))) [] [.dt (netD n ws), .dt (.int s), .dt (.int e), .dt (.int m), .dt (lD f), .dt (lD L), .dt (em p), .un] = _ := e2
      have f1 := iL_F (sp ws (lst p))
      have f2 := emF (nxt ws p)
      have h2' : ((p.length : Nat) : Int) ≤ (m : Int) := by omega
      have nl : (nxt ws p).length ≤ ws.length := by
        unfold nxt
        rw [List.length_map]; exact List.length_filter_le _ _
      have s2 : L.length + (nxt ws p).length ≤ sizeLine := Nat.le_trans (show L.length + (nxt ws p).length ≤ 10001000 by omega) (by decide)
      unfold rho1 lD at e2 ⊢
      simp [rho0, fSeq, fIfS, fB, fOp2, fOp1, fC, fName, slot, Sl.dat, out2, out1, seqOf_tup, seqOf_lst, atI, ixN, D.isF, D.isFL, Kd.isF, sGt, sLt, sLe, sGe, s2I, tstB, fAsg, asg, gSet, fOwn, own, ownB, fFz, fzz, fCall, faCons, faApp, faNil, outL, rds, sInt, sMod, sDiv, sSub, sMul, gStore, isOwn, stB, wbS, fRet, fMv, mv, rtn, lent, fTup, fLst, outTup, outLst, valsOf, fIf, ftNot, ftAnd, ftOr, fAnd, fOr, fNot, fNx, fBk, fCt, fDrop, fRetN, sIsN, D.isN, sIsI, fIsI, tyD, sLen, sAbs, sMax2, sMin2, sTuple, sList, sLZ, sNeg, s1I, fCallU, callU, pairs, argsOf, lends, wb, fApp, appB, chg, mApp, fExt, extB, mExt, fPop, mPop, fPopAt, popB, mPopAt, EE.gTup, gAll, fPar, par, fAug, sIpA, sIpS, sEqI, sNeI, fiRng1, fiRng2, rng1, rng2, fiSeq, iti, itm, fiEnum, enumI, fiZip, zipI, fYes, fLC, lcEnd, fFor, forL, lcL, wipeR, backR, ix, h1', h2', hF, nF, e1, e2, f1, f2, s2]
    · rw [if_neg h2]
      have h2' : ¬ ((p.length : Nat) : Int) ≤ (m : Int) := by omega
      unfold rho1 lD
      simp [rho0, fSeq, fIfS, fB, fOp2, fOp1, fC, fName, slot, Sl.dat, out2, out1, seqOf_tup, seqOf_lst, atI, ixN, D.isF, D.isFL, Kd.isF, sGt, sLt, sLe, sGe, s2I, tstB, fAsg, asg, gSet, fOwn, own, ownB, fFz, fzz, fCall, faCons, faApp, faNil, outL, rds, sInt, sMod, sDiv, sSub, sMul, gStore, isOwn, stB, wbS, fRet, fMv, mv, rtn, lent, fTup, fLst, outTup, outLst, valsOf, fIf, ftNot, ftAnd, ftOr, fAnd, fOr, fNot, fNx, fBk, fCt, fDrop, fRetN, sIsN, D.isN, sIsI, fIsI, tyD, sLen, sAbs, sMax2, sMin2, sTuple, sList, sLZ, sNeg, s1I, fCallU, callU, pairs, argsOf, lends, wb, fApp, appB, chg, mApp, fExt, extB, mExt, fPop, mPop, fPopAt, popB, mPopAt, EE.gTup, gAll, fPar, par, fAug, sIpA, sIpS, sEqI, sNeI, fiRng1, fiRng2, rng1, rng2, fiSeq, iti, itm, fiEnum, enumI, fiZip, zipI, fYes, fLC, lcEnd, fFor, forL, lcL, wipeR, backR, ix, h1', h2', hF]
end K00

namespace K00
open PySem PySem.Spec
open PyProof.Rows hiding St
open L2 EE
/-- how many turns a trail takes -/
def cn (ws : Wy) (e : Int) (m : Nat) (p : Pt) : Nat := cnt ws e (m + 1 - p.length) p
def tn (ws : Wy) (e : Int) (m : Nat) (p : Pt) : List Pt := tr ws e (m + 1 - p.length) p
theorem cn_pos (ws : Wy) (e : Int) (m : Nat) (p : Pt) : 1 ≤ cn ws e m p := by
  unfold cn
  cases m + 1 - p.length with
  | zero => exact Nat.le_refl 1
  | succ k =>
    rw [cnt]
    split
    · exact Nat.le_refl 1
    · omega
theorem sum_ge (f : Pt → Nat) (h : ∀ p, 1 ≤ f p) : ∀ l : List Pt, l.length ≤ (l.map f).sum
  | [] => Nat.le_refl _
  | p :: l => by
    have := sum_ge f h l
    have := h p
    simp only [List.length_cons, List.map_cons, List.sum_cons]; omega
theorem cn_kids {ws : Wy} {e : Int} {m : Nat} {p : Pt} (h1 : ¬ lst p = e) (h2 : p.length ≤ m) : cn ws e m p = 1 + ((nxt ws p).map (cn ws e m)).sum := by
  obtain ⟨k, hk⟩ : ∃ k, m + 1 - p.length = k + 1 := ⟨m - p.length, by omega⟩
  have : ∀ c ∈ nxt ws p, cnt ws e k c = cn ws e m c := fun c hc => by
    unfold cn
    have := nxt_len hc
    rw [show m + 1 - c.length = k by omega]
  have e1 : cn ws e m p = 1 + ((nxt ws p).map (cnt ws e k)).sum := by
    unfold cn
    rw [hk, cnt, if_neg h1]
  rw [e1, List.map_congr_left this]
theorem tn_kids {ws : Wy} {e : Int} {m : Nat} {p : Pt} (h1 : ¬ lst p = e) (h2 : p.length ≤ m) : tn ws e m p = (nxt ws p).flatMap (tn ws e m) := by
  obtain ⟨k, hk⟩ : ∃ k, m + 1 - p.length = k + 1 := ⟨m - p.length, by omega⟩
  have : ∀ c ∈ nxt ws p, tr ws e k c = tn ws e m c := fun c hc => by
    unfold tn
    have := nxt_len hc
    rw [show m + 1 - c.length = k by omega]
  have e1 : tn ws e m p = (nxt ws p).flatMap (tr ws e k) := by
    unfold tn
    rw [hk, tr, if_neg h1]
  rw [e1, fm_congr this]
theorem tn_end {ws : Wy} {e : Int} {m : Nat} {p : Pt} (h1 : lst p = e) : tn ws e m p = [p] := by
  unfold tn
  cases m + 1 - p.length with
  | zero => rw [tr, if_pos h1]
  | succ k => rw [tr, if_pos h1]
theorem tn_stop {ws : Wy} {e : Int} {m : Nat} {p : Pt} (h1 : ¬ lst p = e) (h2 : ¬ p.length ≤ m) : tn ws e m p = [] := by
  unfold tn
  rw [show m + 1 - p.length = 0 by omega, tr, if_neg h1]
theorem nxt_le (ws : Wy) (p : Pt) : (nxt ws p).length ≤ ws.length := by
  unfold nxt
  rw [List.length_map]; exact List.length_filter_le _ _
theorem snocP : ∀ S : List Pt, S = [] ∨ ∃ S' x, S = S' ++ [x]
  | [] => .inl rfl
  | x :: S => by
    rcases snocP S with rfl | ⟨S', y, rfl⟩
    · exact .inr ⟨[], x, rfl⟩
    · exact .inr ⟨x :: S', y, rfl⟩
theorem dfs (n s e : Int) (ws : Wy) (m : Nat) (hm : m < 500) (hw : ws.length < 1000) : ∀ (N : Nat) (f l : List Pt) (s6 : Sl), (s6 = .un ∨ ∃ x, s6 = .dt x) → (∀ p ∈ l, p ≠ [] ∧ p.length ≤ m + 1) → (l.map (cn ws e m)).sum < N → f.length + (l.map (cn ws e m)).sum < 1000000 →
    ∃ f' t, whileN b_short_trails_4 b_short_trails_3 N (rho1 n ws s e m f l s6) = .ok .nx (rho1 n ws s e m f' [] t) ∧ f'.Perm (f ++ l.flatMap (tn ws e m))
  | 0, f, l, s6, _, _, h, _ => absurd h (Nat.not_lt_zero _)
  | N + 1, f, l, s6, h6, hl, hN, hb => by
    have hT : b_short_trails_4 (rho1 n ws s e m f l s6) = .ok (decide ((0 : Int) < (l.length : Int))) (rho1 n ws s e m f l s6) := by
      rw [b_short_trails_4_eq]
      unfold rho1 lD
      simp [rho0, fSeq, fIfS, fB, fOp2, fOp1, fC, fName, slot, Sl.dat, out2, out1, sIx, seqOf_tup, seqOf_lst, atI, ixN, D.isF, D.isFL, Kd.isF, sGt, sLt, sLe, sGe, s2I, tstB, fAsg, asg, gSet, fOwn, own, ownB, fFz, fzz, fCall, faCons, faApp, faNil, outL, rds, sInt, sMod, sDiv, sSub, sAdd, sMul, gStore, isOwn, stB, wbS, fRet, fMv, mv, rtn, lent, fTup, fLst, outTup, outLst, valsOf, fIf, ftNot, ftAnd, ftOr, fAnd, fOr, fNot, fNx, fBk, fCt, fDrop, fRetN, sIsN, D.isN, sIsI, fIsI, tyD, sLen, sAbs, sMax2, sMin2, sTuple, sList, sLZ, sNeg, s1I, fCallU, callU, pairs, argsOf, lends, wb, fApp, appB, chg, mApp, fExt, extB, mExt, fPop, mPop, fPopAt, popB, mPopAt, EE.gTup, gAll, fPar, par, fAug, sIpA, sIpS, sEqI, sNeI, fiRng1, fiRng2, rng1, rng2, fiSeq, iti, itm, fiEnum, enumI, fiZip, zipI, fYes, fLC, lcEnd, fFor, forL, lcL, wipeR, backR, ]
    rw [whileN, hT]
    rcases snocP l with rfl | ⟨L, p, rfl⟩
    · exact ⟨f, s6, rfl, by simp⟩
    · have hd : decide ((0 : Int) < ((L ++ [p]).length : Int)) = true := by simp
      rw [hd]
      dsimp only
      have hp := hl p (by simp)
      have hL : ∀ q ∈ L, q ≠ [] ∧ q.length ≤ m + 1 := fun q hq => hl q (by simp [hq])
      rw [List.map_append, List.sum_append] at hN hb
      simp only [List.map_cons, List.map_nil, List.sum_cons, List.sum_nil, Nat.add_zero] at hN hb
      have g1 := sum_ge (cn ws e m) (cn_pos ws e m) L
      have g2 := cn_pos ws e m p
      rw [st_step n s e ws m f L p s6 h6 hp.1 (by omega) hw (by omega) (by omega)]
      dsimp only
      by_cases h1 : lst p = e
      · rw [if_pos h1]
        obtain ⟨f', t, q1, q2⟩ := dfs n s e ws m hm hw N (f ++ [p]) L (.dt (em p)) (.inr ⟨_, rfl⟩) hL (by omega) (by simp; omega)
        refine ⟨f', t, q1, q2.trans ?_⟩
        rw [List.flatMap_append, List.flatMap_cons, List.flatMap_nil, tn_end h1, List.append_assoc, List.append_nil]
        exact List.Perm.append_left f List.perm_append_comm
      · rw [if_neg h1]
        by_cases h2 : p.length ≤ m
        · rw [if_pos h2]
          have ck := cn_kids (ws := ws) h1 h2
          have hk : ∀ q ∈ L ++ nxt ws p, q ≠ [] ∧ q.length ≤ m + 1 := fun q hq => by
            rcases List.mem_append.mp hq with hq | hq
            · exact hL q hq
            · have := nxt_len hq
              exact ⟨fun z => by rw [z] at this; simp at this, by omega⟩
          obtain ⟨f', t, q1, q2⟩ := dfs n s e ws m hm hw N f (L ++ nxt ws p) (.dt (em p)) (.inr ⟨_, rfl⟩) hk (by rw [List.map_append, List.sum_append]; omega) (by rw [List.map_append, List.sum_append]; omega)
          refine ⟨f', t, q1, q2.trans ?_⟩
          rw [List.flatMap_append, List.flatMap_append, List.flatMap_cons, List.flatMap_nil, tn_kids h1 h2, List.append_nil]
        · rw [if_neg h2]
          obtain ⟨f', t, q1, q2⟩ := dfs n s e ws m hm hw N f L (.dt (em p)) (.inr ⟨_, rfl⟩) hL (by omega) (by omega)
          refine ⟨f', t, q1, q2.trans ?_⟩
          rw [List.flatMap_append, List.flatMap_cons, List.flatMap_nil, tn_stop h1 h2, List.append_nil, List.append_nil]
/-- short_trails -/
theorem short_ok (n s e : Int) (ws : Wy) (m : Nat) (hm : m < 500) (hw : ws.length < 1000) (hb : cnt ws e m [s] < 1000000) :
    F_short_trails [netD n ws, .int s, .int e, .int m] = .ok (.nd .tup ((srt (tr ws e m [s])).map em)) [.non, .non, .non, .non] := by
  have hc : cn ws e m [s] = cnt ws e m [s] := by unfold cn; rw [show m + 1 - [s].length = m by simp]
  obtain ⟨f', t, q1, q2⟩ := dfs n s e ws m hm hw (cnt ws e m [s] + 1) [] [[s]] .un (.inl rfl) (fun p hp => by rw [List.mem_singleton.mp hp]; exact ⟨by simp, by simp⟩) (by simp [hc]) (by simp [hc]; omega)
  have q2 : f'.Perm (tr ws e m [s]) := by
    have : tn ws e m [s] = tr ws e m [s] := by unfold tn; rw [show m + 1 - [s].length = m by simp]
    simpa [this] using q2
  have e1 := fWhile_eq q1 (fun z => nomatch z)
  have e2 : (f'.map em).mergeSort dLe = (srt (tr ws e m [s])).map em := by rw [em_srt, srt_perm q2]
  have len : ∀ k p, (tr ws e k p).length ≤ cnt ws e k p := fun k => by
    induction k with
    | zero => intro p; rw [tr, cnt]; split <;> simp
    | succ k ih =>
      intro p
      rw [tr, cnt]
      split
      · simp
      · rw [List.length_flatMap]
        have : ∀ l : List Pt, (l.map fun c => (tr ws e k c).length).sum ≤ (l.map (cnt ws e k)).sum := fun l => by
          induction l with
          | nil => exact Nat.le_refl _
          | cons c l ih2 =>
            have := ih c
            simp only [List.map_cons, List.sum_cons]; omega
        have := this (nxt ws p)
        omega
  have hS : Srt (f'.map em) := srt_ok f' (fun p hp z => by
    have h1 := tr_len (q2.subset hp)
    rw [z] at h1; simp at h1) (Nat.le_trans (show f'.length ≤ 1000000 by have := len m [s]; have := q2.length_eq; omega) (by decide))
  have f1 := emF (srt (tr ws e m [s]))
  have nF := netF n ws
  rw [F_short_trails_eq, runF_def, b_short_trails_eq]
  unfold rho1 lD at e1
  have e1 : fWhile b_short_trails_4 b_short_trails_3 [.dt (netD n ws), .dt (.int s), .dt (.int e), .dt (.int m), .dt (.nd (.lst true) []), .dt (.nd (.lst true) [.nd .tup [.int s]]), .un, .un] = _ := e1
  simp [rho0, fSeq, fIfS, fB, fOp2, fOp1, fC, fName, slot, Sl.dat, out2, out1, sIx, seqOf_tup, seqOf_lst, atI, ixN, D.isF, D.isFL, Kd.isF, sGt, sLt, sLe, sGe, s2I, tstB, fAsg, asg, gSet, fOwn, own, ownB, fFz, fzz, fCall, faCons, faApp, faNil, outL, rds, sInt, sMod, sDiv, sSub, sAdd, sMul, gStore, isOwn, stB, wbS, fRet, fMv, mv, rtn, lent, fTup, fLst, outTup, outLst, valsOf, fIf, ftNot, ftAnd, ftOr, fAnd, fOr, fNot, fNx, fBk, fCt, fDrop, fRetN, sIsN, D.isN, sIsI, fIsI, tyD, sLen, sAbs, sMax2, sMin2, sTuple, sList, sLZ, sNeg, s1I, fCallU, callU, pairs, argsOf, lends, wb, fApp, appB, chg, mApp, fExt, extB, mExt, fPop, mPop, fPopAt, popB, mPopAt, EE.gTup, gAll, fPar, par, fAug, sIpA, sIpS, sEqI, sNeI, fiRng1, fiRng2, rng1, rng2, fiSeq, iti, itm, fiEnum, enumI, fiZip, zipI, fYes, fLC, lcEnd, fFor, forL, lcL, wipeR, backR, sl1, e1, sSorted, lstOf, hS, e2, f1]
end K00

namespace K00
open PySem PySem.Spec
open PyProof.Rows hiding St
open L2 EE
mutual
theorem frz_id : ∀ d : D, d.isF = true → d.frz = d
  | .non, _ => rfl
  | .bl _, _ => rfl
  | .int _, _ => rfl
  | .str _, _ => rfl
  | .nd k xs, h => by
    have h : (k.isF && D.isFL xs) = true := h
    rw [Bool.and_eq_true] at h
    show D.nd k.frz (D.frzL xs) = _
    rw [frzL_id xs h.2]
    congr 1
    cases k with
    | tup => rfl
    | lst o => cases o with | true => cases h.1 | false => rfl
    | dic o ks => cases o with | true => cases h.1 | false => rfl
theorem frzL_id : ∀ xs : List D, D.isFL xs = true → D.frzL xs = xs
  | [], _ => rfl
  | x :: xs, h => by
    have h : (D.isF x && D.isFL xs) = true := h
    rw [Bool.and_eq_true] at h
    show D.frz x :: D.frzL xs = _
    rw [frz_id x h.1, frzL_id xs h.2]
end
abbrev fD (l : List Pt) : D := .nd (.lst false) (l.map em)
theorem lD_frz (l : List Pt) : (lD l).frz = fD l := by
  show D.nd (.lst false) (D.frzL (l.map em)) = _
  rw [frzL_id _ (emF l)]
def isE (e : Int) (p : Pt) : Bool := lst p == e
theorem filt_loop (N S : D) (e : Int) (s3 s4 s5 s6 s8 s9 : Sl) : ∀ (rows acc : List Pt), (∀ p ∈ rows, p ≠ []) → acc.length + rows.length < 10000000 →
    lcL (gSet 7) b__law_trails_2 b__law_trails_1 [7] (rows.map em) (acc.map em) [.dt N, .dt S, .dt (.int e), s3, s4, s5, s6, .un, s8, s9] = .ok ((acc ++ rows.filter (isE e)).map em) [.dt N, .dt S, .dt (.int e), s3, s4, s5, s6, .un, s8, s9]
  | [], acc, _, _ => by simp [lcL]
  | p :: rows, acc, h, hl => by
    rw [List.length_cons] at hl
    rw [List.map_cons, lcL]
    have hG : gSet 7 (em p) [.dt N, .dt S, .dt (.int e), s3, s4, s5, s6, .un, s8, s9] = .ok () [.dt N, .dt S, .dt (.int e), s3, s4, s5, s6, .dt (em p), s8, s9] := rfl
    rw [hG]
    dsimp only
    have ix := ixLast (h p List.mem_cons_self)
    have hF := em_F p
    have hT : b__law_trails_2 [.dt N, .dt S, .dt (.int e), s3, s4, s5, s6, .dt (em p), s8, s9] = .ok (isE e p) [.dt N, .dt S, .dt (.int e), s3, s4, s5, s6, .dt (em p), s8, s9] := by
      rw [b__law_trails_2_eq]
      unfold isE
      simp [rho0, fSeq, fIfS, fB, fOp2, fOp1, fC, fName, slot, Sl.dat, out2, out1, seqOf_tup, seqOf_lst, atI, ixN, D.isF, D.isFL, Kd.isF, sGt, sLt, sLe, sGe, s2I, tstB, fAsg, asg, gSet, fOwn, own, ownB, fFz, fzz, fCall, faCons, faApp, faNil, outL, rds, sInt, sMod, sDiv, sSub, sMul, gStore, isOwn, stB, wbS, fRet, fMv, mv, rtn, lent, fTup, fLst, outTup, outLst, valsOf, fIf, ftNot, ftAnd, ftOr, fAnd, fOr, fNot, fNx, fBk, fCt, fDrop, fRetN, sIsN, D.isN, sIsI, fIsI, tyD, sLen, sAbs, sMax2, sMin2, sTuple, sList, sLZ, sNeg, s1I, fCallU, callU, pairs, argsOf, lends, wb, fApp, appB, chg, mApp, fExt, extB, mExt, fPop, mPop, fPopAt, popB, mPopAt, EE.gTup, gAll, fPar, par, fAug, sIpA, sIpS, sEqI, sNeI, fiRng1, fiRng2, rng1, rng2, fiSeq, iti, itm, fiEnum, enumI, fiZip, zipI, fYes, fLC, lcEnd, fFor, forL, lcL, wipeR, backR, ix]
    have hE : b__law_trails_1 [.dt N, .dt S, .dt (.int e), s3, s4, s5, s6, .dt (em p), s8, s9] = .ok (.val (em p)) [.dt N, .dt S, .dt (.int e), s3, s4, s5, s6, .dt (em p), s8, s9] := by
      rw [b__law_trails_1_eq]
      simp only [fOwn, fName, slot, Sl.dat, List.getElem?_cons_succ, List.getElem?_cons_zero, Out.bind_ok, own, ownB, hF, if_true]
    have hr : ∀ q ∈ rows, q ≠ [] := fun q hq => h q (List.mem_cons_of_mem _ hq)
    cases hc : isE e p with
    | true =>
      rw [hc] at hT
      rw [hT]
      dsimp only
      rw [hE]
      dsimp only
      rw [if_pos (by rw [List.length_map]; exact Nat.lt_of_lt_of_le (show acc.length < 10000000 by omega) (by decide))]
      have ih := filt_loop N S e s3 s4 s5 s6 s8 s9 rows (acc ++ [p]) hr (by simp; omega)
      rw [List.map_append] at ih
      rw [List.filter_cons_of_pos hc, show acc ++ p :: rows.filter (isE e) = acc ++ [p] ++ rows.filter (isE e) by simp]
      exact ih
    | false =>
      rw [hc] at hT
      rw [hT]
      dsimp only
      rw [List.filter_cons_of_neg (by rw [hc]; decide)]
      exact filt_loop N S e s3 s4 s5 s6 s8 s9 rows acc hr (by omega)
theorem kid_loop (N S : D) (e : Int) (s3 s4 s5 s6 : Sl) (p : Pt) (hp : p ≠ []) (hpl : p.length < 1000) : ∀ (ws : Wy) (acc : List Pt), acc.length + ws.length < 10000 →
    lcL (EE.gTup [gSet 8, gSet 9]) b__law_trails_4 b__law_trails_3 [8, 9] (ws.map wy) (acc.map em) [.dt N, .dt S, .dt (.int e), s3, s4, s5, s6, .dt (em p), .un, .un] = .ok ((acc ++ nxt ws p).map em) [.dt N, .dt S, .dt (.int e), s3, s4, s5, s6, .dt (em p), .un, .un]
  | [], acc, _ => by simp [lcL, nxt]
  | w :: ws, acc, hl => by
    rw [List.length_cons] at hl
    rw [List.map_cons, lcL]
    have hG : EE.gTup [gSet 8, gSet 9] (wy w) [.dt N, .dt S, .dt (.int e), s3, s4, s5, s6, .dt (em p), .un, .un] = .ok () [.dt N, .dt S, .dt (.int e), s3, s4, s5, s6, .dt (em p), .dt (.int w.1), .dt (.int w.2)] := rfl
    rw [hG]
    dsimp only
    have ix := ixLast hp
    have i1 := inInts w.2 p true
    have a1 := app1 p w.2 hpl
    have hT : b__law_trails_4 [.dt N, .dt S, .dt (.int e), s3, s4, s5, s6, .dt (em p), .dt (.int w.1), .dt (.int w.2)] = .ok (w.1 == lst p && !p.contains w.2) [.dt N, .dt S, .dt (.int e), s3, s4, s5, s6, .dt (em p), .dt (.int w.1), .dt (.int w.2)] := by
      rw [b__law_trails_4_eq]
      by_cases h1 : (w.1 == lst p) = true
      · simp [rho0, fSeq, fIfS, fB, fOp2, fOp1, fC, fName, slot, Sl.dat, out2, out1, seqOf_tup, seqOf_lst, atI, ixN, D.isF, D.isFL, Kd.isF, sGt, sLt, sLe, sGe, s2I, tstB, fAsg, asg, gSet, fOwn, own, ownB, fFz, fzz, fCall, faCons, faApp, faNil, outL, rds, sInt, sMod, sDiv, sSub, sMul, gStore, isOwn, stB, wbS, fRet, fMv, mv, rtn, lent, fTup, fLst, outTup, outLst, valsOf, fIf, ftNot, ftAnd, ftOr, fAnd, fOr, fNot, fNx, fBk, fCt, fDrop, fRetN, sIsN, D.isN, sIsI, fIsI, tyD, sLen, sAbs, sMax2, sMin2, sTuple, sList, sLZ, sNeg, s1I, fCallU, callU, pairs, argsOf, lends, wb, fApp, appB, chg, mApp, fExt, extB, mExt, fPop, mPop, fPopAt, popB, mPopAt, EE.gTup, gAll, fPar, par, fAug, sIpA, sIpS, sEqI, sNeI, fiRng1, fiRng2, rng1, rng2, fiSeq, iti, itm, fiEnum, enumI, fiZip, zipI, fYes, fLC, lcEnd, fFor, forL, lcL, wipeR, backR, ix, i1, h1]
      · have h1' : (w.1 == lst p) = false := by simpa using h1
        simp [rho0, fSeq, fIfS, fB, fOp2, fOp1, fC, fName, slot, Sl.dat, out2, out1, seqOf_tup, seqOf_lst, atI, ixN, D.isF, D.isFL, Kd.isF, sGt, sLt, sLe, sGe, s2I, tstB, fAsg, asg, gSet, fOwn, own, ownB, fFz, fzz, fCall, faCons, faApp, faNil, outL, rds, sInt, sMod, sDiv, sSub, sMul, gStore, isOwn, stB, wbS, fRet, fMv, mv, rtn, lent, fTup, fLst, outTup, outLst, valsOf, fIf, ftNot, ftAnd, ftOr, fAnd, fOr, fNot, fNx, fBk, fCt, fDrop, fRetN, sIsN, D.isN, sIsI, fIsI, tyD, sLen, sAbs, sMax2, sMin2, sTuple, sList, sLZ, sNeg, s1I, fCallU, callU, pairs, argsOf, lends, wb, fApp, appB, chg, mApp, fExt, extB, mExt, fPop, mPop, fPopAt, popB, mPopAt, EE.gTup, gAll, fPar, par, fAug, sIpA, sIpS, sEqI, sNeI, fiRng1, fiRng2, rng1, rng2, fiSeq, iti, itm, fiEnum, enumI, fiZip, zipI, fYes, fLC, lcEnd, fFor, forL, lcL, wipeR, backR, ix, i1, h1']
    have hE : b__law_trails_3 [.dt N, .dt S, .dt (.int e), s3, s4, s5, s6, .dt (em p), .dt (.int w.1), .dt (.int w.2)] = .ok (.val (em (p ++ [w.2]))) [.dt N, .dt S, .dt (.int e), s3, s4, s5, s6, .dt (em p), .dt (.int w.1), .dt (.int w.2)] := by
      rw [b__law_trails_3_eq]
      simp only [fOp2, fName, slot, Sl.dat, fTup, faCons, fOwn, own, ownB, faNil, Out.bind_ok, outTup, valsOf, List.getElem?_cons_succ, List.getElem?_cons_zero, D.isF, if_true, List.length_cons, List.length_nil, Nat.zero_add, if_pos sl1, out2, rd, a1]
    have hN : nxt (w :: ws) p = (if (w.1 == lst p && !p.contains w.2) = true then [p ++ [w.2]] else []) ++ nxt ws p := by
      unfold nxt
      by_cases hc : (w.1 == lst p && !p.contains w.2) = true
      · rw [List.filter_cons_of_pos (p := fun w : Int × Int => w.1 == lst p && !p.contains w.2) (l := ws) hc, if_pos hc]; rfl
      · rw [List.filter_cons_of_neg (p := fun w : Int × Int => w.1 == lst p && !p.contains w.2) (l := ws) hc, if_neg hc]; rfl
    rw [hN]
    cases hc : (w.1 == lst p && !p.contains w.2) with
    | true =>
      rw [hc] at hT
      rw [hT]
      dsimp only
      rw [hE]
      dsimp only
      rw [if_pos (by rw [List.length_map]; exact Nat.lt_of_lt_of_le (show acc.length < 10000 by omega) (by decide)), if_pos rfl]
      have ih := kid_loop N S e s3 s4 s5 s6 p hp hpl ws (acc ++ [p ++ [w.2]]) (by simp; omega)
      rw [List.map_append, List.append_assoc] at ih
      exact ih
    | false =>
      rw [hc] at hT
      rw [hT]
      dsimp only
      rw [if_neg (by decide), List.nil_append]
      exact kid_loop N S e s3 s4 s5 s6 p hp hpl ws acc (by omega)
def grow (ws : Wy) (e : Int) (rows : List Pt) : List Pt := (rows.filter fun p => !isE e p).flatMap (nxt ws)
theorem row_loop (n : Int) (ws : Wy) (hw : ws.length < 1000) (S : D) (e : Int) (s3 s4 s5 : Sl) : ∀ (rows lg : List Pt) (s7 : Sl), (s7 = .un ∨ ∃ x, s7 = .dt x) → (∀ p ∈ rows, p ≠ [] ∧ p.length < 1000) → lg.length + (grow ws e rows).length < 10000000 →
    ∃ t, (t = s7 ∨ ∃ q : Pt, t = .dt (em q)) ∧ forL (gSet 7) b__law_trails_5 (rows.map em) [.dt (netD n ws), .dt S, .dt (.int e), s3, s4, s5, .dt (lD lg), s7, .un, .un] = .ok .nx [.dt (netD n ws), .dt S, .dt (.int e), s3, s4, s5, .dt (lD (lg ++ grow ws e rows)), t, .un, .un]
  | [], lg, s7, _, _, _ => ⟨s7, .inl rfl, by simp [grow, forL]⟩
  | p :: rows, lg, s7, h7, h, hl => by
    have hp := h p List.mem_cons_self
    have hr : ∀ q ∈ rows, q ≠ [] ∧ q.length < 1000 := fun q hq => h q (List.mem_cons_of_mem _ hq)
    have hG : gSet 7 (em p) [.dt (netD n ws), .dt S, .dt (.int e), s3, s4, s5, .dt (lD lg), s7, .un, .un] = .ok () [.dt (netD n ws), .dt S, .dt (.int e), s3, s4, s5, .dt (lD lg), .dt (em p), .un, .un] := by
      rcases h7 with rfl | ⟨x, rfl⟩ <;> rfl
    have hgr : grow ws e (p :: rows) = (if isE e p then [] else nxt ws p) ++ grow ws e rows := by
      unfold grow
      cases hc : isE e p with
      | true => rw [List.filter_cons_of_neg (by rw [hc]; decide)]; rfl
      | false => rw [List.filter_cons_of_pos (by rw [hc]; decide), List.flatMap_cons]; rfl
    rw [hgr, List.length_append] at hl
    have ix := ixLast hp.1
    have hF := em_F p
    have hB : b__law_trails_5 [.dt (netD n ws), .dt S, .dt (.int e), s3, s4, s5, .dt (lD lg), .dt (em p), .un, .un] = .ok .nx [.dt (netD n ws), .dt S, .dt (.int e), s3, s4, s5, .dt (lD (lg ++ if isE e p then [] else nxt ws p)), .dt (em p), .un, .un] := by
      rw [b__law_trails_5_eq]
      cases hc : isE e p with
      | true =>
        have hc' : lst p = e := by unfold isE at hc; simpa using hc
        unfold lD
        simp [rho0, fSeq, fIfS, fB, fOp2, fOp1, fC, fName, slot, Sl.dat, out2, out1, seqOf_tup, seqOf_lst, atI, ixN, D.isF, D.isFL, Kd.isF, sGt, sLt, sLe, sGe, s2I, tstB, fAsg, asg, gSet, fOwn, own, ownB, fFz, fzz, fCall, faCons, faApp, faNil, outL, rds, sInt, sMod, sDiv, sSub, sMul, gStore, isOwn, stB, wbS, fRet, fMv, mv, rtn, lent, fTup, fLst, outTup, outLst, valsOf, fIf, ftNot, ftAnd, ftOr, fAnd, fOr, fNot, fNx, fBk, fCt, fDrop, fRetN, sIsN, D.isN, sIsI, fIsI, tyD, sLen, sAbs, sMax2, sMin2, sTuple, sList, sLZ, sNeg, s1I, fCallU, callU, pairs, argsOf, lends, wb, fApp, appB, chg, mApp, fExt, extB, mExt, fPop, mPop, fPopAt, popB, mPopAt, EE.gTup, gAll, fPar, par, fAug, sIpA, sIpS, sEqI, sNeI, fiRng1, fiRng2, rng1, rng2, fiSeq, iti, itm, fiEnum, enumI, fiZip, zipI, fYes, fLC, lcEnd, fFor, forL, lcL, wipeR, backR, ix, hc']
      | false =>
        have hc' : ¬ lst p = e := by unfold isE at hc; simpa using hc
        rw [hc] at hl
        have kl := kid_loop (netD n ws) S e s3 s4 s5 (.dt (lD lg)) p hp.1 hp.2 ws [] (by simp; omega)
        rw [List.nil_append] at kl
        have kl : lcL (EE.gTup [gSet 8, gSet 9]) b__law_trails_4 b__law_trails_3 [8, 9] (ws.map wy) [] [.dt (netD n ws), .dt S, .dt (.int e), s3, s4, s5, .dt (lD lg), .dt (em p), .un, .un] = _ := kl
        have f1 := wyF ws
        have f2 := emF (nxt ws p)
        have s1 : lg.length + (nxt ws p).length ≤ sizeLine := Nat.le_trans (show lg.length + (nxt ws p).length ≤ 10000000 by simp at hl; omega) (by decide)
        have ixn : sIx (netD n ws) (.int 1) = some (.nd .tup (ws.map wy)) := by
          unfold netD
          simp [rho0, fSeq, fIfS, fB, fOp2, fOp1, fC, fName, slot, Sl.dat, out2, out1, sIx, seqOf_tup, seqOf_lst, atI, ixN, D.isF, D.isFL, Kd.isF, sGt, sLt, sLe, sGe, s2I, tstB, fAsg, asg, gSet, fOwn, own, ownB, fFz, fzz, fCall, faCons, faApp, faNil, outL, rds, sInt, sMod, sDiv, sSub, sAdd, sMul, gStore, isOwn, stB, wbS, fRet, fMv, mv, rtn, lent, fTup, fLst, outTup, outLst, valsOf, fIf, ftNot, ftAnd, ftOr, fAnd, fOr, fNot, fNx, fBk, fCt, fDrop, fRetN, sIsN, D.isN, sIsI, fIsI, tyD, sLen, sAbs, sMax2, sMin2, sTuple, sList, sLZ, sNeg, s1I, fCallU, callU, pairs, argsOf, lends, wb, fApp, appB, chg, mApp, fExt, extB, mExt, fPop, mPop, fPopAt, popB, mPopAt, EE.gTup, gAll, fPar, par, fAug, sIpA, sIpS, sEqI, sNeI, fiRng1, fiRng2, rng1, rng2, fiSeq, iti, itm, fiEnum, enumI, fiZip, zipI, fYes, fLC, lcEnd, fFor, forL, lcL, wipeR, backR, f1]
        unfold lD at kl ⊢
        simp [rho0, fSeq, fIfS, fB, fOp2, fOp1, fC, fName, slot, Sl.dat, out2, out1, seqOf_tup, seqOf_lst, atI, ixN, D.isF, D.isFL, Kd.isF, sGt, sLt, sLe, sGe, s2I, tstB, fAsg, asg, gSet, fOwn, own, ownB, fFz, fzz, fCall, faCons, faApp, faNil, outL, rds, sInt, sMod, sDiv, sSub, sMul, gStore, isOwn, stB, wbS, fRet, fMv, mv, rtn, lent, fTup, fLst, outTup, outLst, valsOf, fIf, ftNot, ftAnd, ftOr, fAnd, fOr, fNot, fNx, fBk, fCt, fDrop, fRetN, sIsN, D.isN, sIsI, fIsI, tyD, sLen, sAbs, sMax2, sMin2, sTuple, sList, sLZ, sNeg, s1I, fCallU, callU, pairs, argsOf, lends, wb, fApp, appB, chg, mApp, fExt, extB, mExt, fPop, mPop, fPopAt, popB, mPopAt, EE.gTup, gAll, fPar, par, fAug, sIpA, sIpS, sEqI, sNeI, fiRng1, fiRng2, rng1, rng2, fiSeq, iti, itm, fiEnum, enumI, fiZip, zipI, fYes, fLC, lcEnd, fFor, forL, lcL, wipeR, backR, ix, hc', ixn, f1, f2, kl, s1]
    rw [List.map_cons, forL, hG]
    dsimp only
    rw [hB]
    dsimp only
    obtain ⟨t, ht, ih⟩ := row_loop n ws hw S e s3 s4 s5 rows (lg ++ if isE e p then [] else nxt ws p) (.dt (em p)) (.inr ⟨_, rfl⟩) hr (by simp only [List.length_append]; omega)
    refine ⟨t, .inr ?_, by rw [ih, hgr, List.append_assoc]⟩
    rcases ht with rfl | ⟨q, rfl⟩
    · exact ⟨p, rfl⟩
    · exact ⟨q, rfl⟩
end K00

namespace K00
open PySem PySem.Spec
open PyProof.Rows hiding St
open L2 EE
theorem filt_le (f : Pt → Bool) (l : List Pt) : (l.filter f).length ≤ l.length := List.length_filter_le _ _
/-- one turn -/
theorem turn_step (n : Int) (ws : Wy) (hw : ws.length < 1000) (S : D) (e : Int) (b : Bool) (rows found : List Pt) (s5 s6 s7 : Sl) (h6 : s6 = .un ∨ ∃ x, s6 = .dt x) (h7 : s7 = .un ∨ ∃ q : Pt, s7 = .dt (em q)) (h : ∀ p ∈ rows, p ≠ [] ∧ p.length < 1000) (h1 : found.length + rows.length < 5000000) (h2 : (grow ws e rows).length < 5000000) :
    ∃ t x, (t = .un ∨ ∃ q : Pt, t = .dt (em q)) ∧ b__law_trails_6 [.dt (netD n ws), .dt S, .dt (.int e), .dt (.nd (.lst b) (rows.map em)), .dt (lD found), s5, s6, s7, .un, .un] =
      .ok .nx [.dt (netD n ws), .dt S, .dt (.int e), .dt (fD (grow ws e rows)), .dt (lD (found ++ rows.filter (isE e))), s5, .dt x, t, .un, .un] := by
  have hne : ∀ p ∈ rows, p ≠ [] := fun p hp => (h p hp).1
  have fl := filt_loop (netD n ws) S e (.dt (fD rows)) (.dt (lD found)) s5 s6 .un .un rows [] hne (by simp; omega)
  rw [List.nil_append] at fl
  have fl : lcL (gSet 7) b__law_trails_2 b__law_trails_1 [7] (rows.map em) [] [.dt (netD n ws), .dt S, .dt (.int e), .dt (fD rows), .dt (lD found), s5, s6, .un, .un, .un] = _ := fl
  have f0 := emF rows
  have f1 := emF found
  have f2 := emF (rows.filter (isE e))
  have fz := frzL_id _ f0
  have fl2 := filt_le (isE e) rows
  have sz : found.length + (rows.filter (isE e)).length ≤ sizeLine := Nat.le_trans (show found.length + (rows.filter (isE e)).length ≤ 5000000 by omega) (by decide)
  have A1 : fAsg (fOp2 sAdd (fName 4) (fLC (fiSeq (fName 3)) (gSet 7) b__law_trails_2 b__law_trails_1 [7])) (gSet 4) [.dt (netD n ws), .dt S, .dt (.int e), .dt (.nd (.lst b) (rows.map em)), .dt (lD found), s5, s6, s7, .un, .un] =
      .ok .nx [.dt (netD n ws), .dt S, .dt (.int e), .dt (fD rows), .dt (lD (found ++ rows.filter (isE e))), s5, s6, s7, .un, .un] := by
    have ad : sAdd (lD found) (lD (rows.filter (isE e))) = some (lD (found ++ rows.filter (isE e))) := by
      unfold sAdd lD
      dsimp only
      rw [if_pos ⟨by simpa using sz, f1, f2⟩, List.map_append]
    unfold lD fD at fl ⊢
    unfold lD at ad
    rw [List.map_append] at ad
    rcases h7 with rfl | ⟨q, rfl⟩
    · cases b <;> simp [rho0, fSeq, fIfS, fB, fOp2, fOp1, fC, fName, slot, Sl.dat, out2, out1, seqOf_tup, seqOf_lst, atI, ixN, D.isF, D.isFL, Kd.isF, sGt, sLt, sLe, sGe, s2I, tstB, fAsg, asg, gSet, fOwn, own, ownB, fFz, fzz, fCall, faCons, faApp, faNil, outL, rds, sInt, sMod, sDiv, sSub, sMul, gStore, isOwn, stB, wbS, fRet, fMv, mv, rtn, lent, fTup, fLst, outTup, outLst, valsOf, fIf, ftNot, ftAnd, ftOr, fAnd, fOr, fNot, fNx, fBk, fCt, fDrop, fRetN, sIsN, D.isN, sIsI, fIsI, tyD, sLen, sAbs, sMax2, sMin2, sTuple, sList, sLZ, sNeg, s1I, fCallU, callU, pairs, argsOf, lends, wb, fApp, appB, chg, mApp, fExt, extB, mExt, fPop, mPop, fPopAt, popB, mPopAt, EE.gTup, gAll, fPar, par, fAug, sIpA, sIpS, sEqI, sNeI, fiRng1, fiRng2, rng1, rng2, fiSeq, iti, itm, fiEnum, enumI, fiZip, zipI, fYes, fLC, lcEnd, fFor, forL, lcL, wipeR, backR, f0, fz, D.frz, Kd.frz, fl, ad]
    · have qF := em_F q
      have qL := iL_F q
      cases b <;> simp [rho0, fSeq, fIfS, fB, fOp2, fOp1, fC, fName, slot, Sl.dat, out2, out1, seqOf_tup, seqOf_lst, atI, ixN, D.isF, D.isFL, Kd.isF, sGt, sLt, sLe, sGe, s2I, tstB, fAsg, asg, gSet, fOwn, own, ownB, fFz, fzz, fCall, faCons, faApp, faNil, outL, rds, sInt, sMod, sDiv, sSub, sMul, gStore, isOwn, stB, wbS, fRet, fMv, mv, rtn, lent, fTup, fLst, outTup, outLst, valsOf, fIf, ftNot, ftAnd, ftOr, fAnd, fOr, fNot, fNx, fBk, fCt, fDrop, fRetN, sIsN, D.isN, sIsI, fIsI, tyD, sLen, sAbs, sMax2, sMin2, sTuple, sList, sLZ, sNeg, s1I, fCallU, callU, pairs, argsOf, lends, wb, fApp, appB, chg, mApp, fExt, extB, mExt, fPop, mPop, fPopAt, popB, mPopAt, EE.gTup, gAll, fPar, par, fAug, sIpA, sIpS, sEqI, sNeI, fiRng1, fiRng2, rng1, rng2, fiSeq, iti, itm, fiEnum, enumI, fiZip, zipI, fYes, fLC, lcEnd, fFor, forL, lcL, wipeR, backR, f0, fz, D.frz, Kd.frz, fl, ad, qF, qL]
  have A2 : fAsg (fLst faNil) (gSet 6) [.dt (netD n ws), .dt S, .dt (.int e), .dt (fD rows), .dt (lD (found ++ rows.filter (isE e))), s5, s6, s7, .un, .un] =
      .ok .nx [.dt (netD n ws), .dt S, .dt (.int e), .dt (fD rows), .dt (lD (found ++ rows.filter (isE e))), s5, .dt (lD []), s7, .un, .un] := by
    unfold lD fD
    rcases h6 with rfl | ⟨x, rfl⟩ <;> simp [rho0, fSeq, fIfS, fB, fOp2, fOp1, fC, fName, slot, Sl.dat, out2, out1, sIx, seqOf_tup, seqOf_lst, atI, ixN, D.isF, D.isFL, Kd.isF, sGt, sLt, sLe, sGe, s2I, tstB, fAsg, asg, gSet, fOwn, own, ownB, fFz, fzz, fCall, faCons, faApp, faNil, outL, rds, sInt, sMod, sDiv, sSub, sAdd, sMul, gStore, isOwn, stB, wbS, fRet, fMv, mv, rtn, lent, fTup, fLst, outTup, outLst, valsOf, fIf, ftNot, ftAnd, ftOr, fAnd, fOr, fNot, fNx, fBk, fCt, fDrop, fRetN, sIsN, D.isN, sIsI, fIsI, tyD, sLen, sAbs, sMax2, sMin2, sTuple, sList, sLZ, sNeg, s1I, fCallU, callU, pairs, argsOf, lends, wb, fApp, appB, chg, mApp, fExt, extB, mExt, fPop, mPop, fPopAt, popB, mPopAt, EE.gTup, gAll, fPar, par, fAug, sIpA, sIpS, sEqI, sNeI, fiRng1, fiRng2, rng1, rng2, fiSeq, iti, itm, fiEnum, enumI, fiZip, zipI, fYes, fLC, lcEnd, fFor, forL, lcL, wipeR, backR, ]
  obtain ⟨t, ht, rl⟩ := row_loop n ws hw S e (.dt (fD rows)) (.dt (lD (found ++ rows.filter (isE e)))) s5 rows [] s7 (by rcases h7 with h | ⟨q, h⟩; exact .inl h; exact .inr ⟨_, h⟩) h (by simp; omega)
  rw [List.nil_append] at rl
  have A3 : fFor (fiSeq (fName 3)) (gSet 7) b__law_trails_5 [.dt (netD n ws), .dt S, .dt (.int e), .dt (fD rows), .dt (lD (found ++ rows.filter (isE e))), s5, .dt (lD []), s7, .un, .un] =
      .ok .nx [.dt (netD n ws), .dt S, .dt (.int e), .dt (fD rows), .dt (lD (found ++ rows.filter (isE e))), s5, .dt (lD (grow ws e rows)), t, .un, .un] := by
    unfold fD lD at rl ⊢
    simp only [List.map_append, List.map_nil] at rl
    simp [rho0, fSeq, fIfS, fB, fOp2, fOp1, fC, fName, slot, Sl.dat, out2, out1, seqOf_tup, seqOf_lst, atI, ixN, D.isF, D.isFL, Kd.isF, sGt, sLt, sLe, sGe, s2I, tstB, fAsg, asg, gSet, fOwn, own, ownB, fFz, fzz, fCall, faCons, faApp, faNil, outL, rds, sInt, sMod, sDiv, sSub, sMul, gStore, isOwn, stB, wbS, fRet, fMv, mv, rtn, lent, fTup, fLst, outTup, outLst, valsOf, fIf, ftNot, ftAnd, ftOr, fAnd, fOr, fNot, fNx, fBk, fCt, fDrop, fRetN, sIsN, D.isN, sIsI, fIsI, tyD, sLen, sAbs, sMax2, sMin2, sTuple, sList, sLZ, sNeg, s1I, fCallU, callU, pairs, argsOf, lends, wb, fApp, appB, chg, mApp, fExt, extB, mExt, fPop, mPop, fPopAt, popB, mPopAt, EE.gTup, gAll, fPar, par, fAug, sIpA, sIpS, sEqI, sNeI, fiRng1, fiRng2, rng1, rng2, fiSeq, iti, itm, fiEnum, enumI, fiZip, zipI, fYes, fLC, lcEnd, fFor, forL, lcL, wipeR, backR, f0, rl]
  have f3 := emF (grow ws e rows)
  have fz3 := frzL_id _ f3
  have A4 : fAsg (fOwn (fName 6)) (gSet 3) [.dt (netD n ws), .dt S, .dt (.int e), .dt (fD rows), .dt (lD (found ++ rows.filter (isE e))), s5, .dt (lD (grow ws e rows)), t, .un, .un] =
      .ok .nx [.dt (netD n ws), .dt S, .dt (.int e), .dt (fD (grow ws e rows)), .dt (lD (found ++ rows.filter (isE e))), s5, .dt (fD (grow ws e rows)), t, .un, .un] := by
    unfold lD fD
    simp [rho0, fSeq, fIfS, fB, fOp2, fOp1, fC, fName, slot, Sl.dat, out2, out1, sIx, seqOf_tup, seqOf_lst, atI, ixN, D.isF, D.isFL, Kd.isF, sGt, sLt, sLe, sGe, s2I, tstB, fAsg, asg, gSet, fOwn, own, ownB, fFz, fzz, fCall, faCons, faApp, faNil, outL, rds, sInt, sMod, sDiv, sSub, sAdd, sMul, gStore, isOwn, stB, wbS, fRet, fMv, mv, rtn, lent, fTup, fLst, outTup, outLst, valsOf, fIf, ftNot, ftAnd, ftOr, fAnd, fOr, fNot, fNx, fBk, fCt, fDrop, fRetN, sIsN, D.isN, sIsI, fIsI, tyD, sLen, sAbs, sMax2, sMin2, sTuple, sList, sLZ, sNeg, s1I, fCallU, callU, pairs, argsOf, lends, wb, fApp, appB, chg, mApp, fExt, extB, mExt, fPop, mPop, fPopAt, popB, mPopAt, EE.gTup, gAll, fPar, par, fAug, sIpA, sIpS, sEqI, sNeI, fiRng1, fiRng2, rng1, rng2, fiSeq, iti, itm, fiEnum, enumI, fiZip, zipI, fYes, fLC, lcEnd, fFor, forL, lcL, wipeR, backR, f3, fz3, D.frz, Kd.frz]
  refine ⟨t, fD (grow ws e rows), ?_, ?_⟩
  · rcases ht with rfl | h
    · exact h7
    · exact .inr h
  · rw [b__law_trails_6_eq]
    unfold fSeq
    rw [A1]
    simp only [sq_nx]
    rw [A2]
    simp only [sq_nx]
    rw [A3]
    simp only [sq_nx]
    exact A4
theorem grow_len (ws : Wy) (e : Int) (rows : List Pt) : ∀ q ∈ grow ws e rows, ∃ p ∈ rows, q.length = p.length + 1 := fun q hq => by
  obtain ⟨p, hp, hq⟩ := List.mem_flatMap.mp hq
  exact ⟨p, (List.mem_filter.mp hp).1, nxt_len hq⟩
theorem cnt_grow (ws : Wy) (e : Int) (k : Nat) : ∀ rows : List Pt, (rows.filter (isE e)).length + ((grow ws e rows).map (cnt ws e k)).sum ≤ (rows.map (cnt ws e (k + 1))).sum
  | [] => Nat.le_refl _
  | p :: rows => by
    have ih := cnt_grow ws e k rows
    rw [List.map_cons, List.sum_cons, cnt]
    cases hc : isE e p with
    | true =>
      have hc' : lst p = e := by unfold isE at hc; simpa using hc
      have g : grow ws e (p :: rows) = grow ws e rows := by unfold grow; rw [List.filter_cons_of_neg (by rw [hc]; decide)]
      rw [if_pos hc', g, List.filter_cons_of_pos hc, List.length_cons]; omega
    | false =>
      have hc' : ¬ lst p = e := by unfold isE at hc; simpa using hc
      have g : grow ws e (p :: rows) = nxt ws p ++ grow ws e rows := by unfold grow; rw [List.filter_cons_of_pos (by rw [hc]; decide), List.flatMap_cons]
      rw [if_neg hc', g, List.filter_cons_of_neg (by rw [hc]; decide), List.map_append, List.sum_append]; omega
theorem grow_perm (ws : Wy) (e : Int) (k : Nat) : ∀ rows : List Pt, (rows.filter (isE e) ++ (grow ws e rows).flatMap (trB ws e k)).Perm (rows.flatMap (trB ws e (k + 1)))
  | [] => List.Perm.refl _
  | p :: rows => by
    have ih := grow_perm ws e k rows
    rw [List.flatMap_cons, trB]
    cases hc : isE e p with
    | true =>
      have hc' : lst p = e := by unfold isE at hc; simpa using hc
      have g : grow ws e (p :: rows) = grow ws e rows := by unfold grow; rw [List.filter_cons_of_neg (by rw [hc]; decide)]
      rw [if_pos hc', g, List.filter_cons_of_pos hc]
      exact ih.cons p
    | false =>
      have hc' : ¬ lst p = e := by unfold isE at hc; simpa using hc
      have g : grow ws e (p :: rows) = nxt ws p ++ grow ws e rows := by unfold grow; rw [List.filter_cons_of_pos (by rw [hc]; decide), List.flatMap_cons]
      rw [if_neg hc', g, List.filter_cons_of_neg (by rw [hc]; decide), List.flatMap_append]
      refine List.Perm.trans ?_ (ih.append_left _)
      rw [← List.append_assoc, ← List.append_assoc]
      exact List.Perm.append_right _ List.perm_append_comm
theorem cnt_pos (ws : Wy) (e : Int) : ∀ (k : Nat) (p : Pt), 1 ≤ cnt ws e k p
  | 0, _ => Nat.le_refl 1
  | k + 1, p => by rw [cnt]; split <;> omega
theorem turns (n : Int) (ws : Wy) (hw : ws.length < 1000) (S : D) (e : Int) : ∀ (ns : List Int) (b : Bool) (rows found : List Pt) (s5 s6 s7 : Sl), (s5 = .un ∨ ∃ x, s5 = .dt x) → (s6 = .un ∨ ∃ x, s6 = .dt x) → (s7 = .un ∨ ∃ q : Pt, s7 = .dt (em q)) → (∀ p ∈ rows, p ≠ [] ∧ p.length + ns.length < 1000) →
      found.length + (rows.map (cnt ws e ns.length)).sum < 1000000 →
    ∃ f' r x y z, forL (gSet 5) b__law_trails_6 (iL ns) [.dt (netD n ws), .dt S, .dt (.int e), .dt (.nd (.lst b) (rows.map em)), .dt (lD found), s5, s6, s7, .un, .un] =
      .ok .nx [.dt (netD n ws), .dt S, .dt (.int e), r, .dt (lD f'), x, y, z, .un, .un] ∧ f'.Perm (found ++ rows.flatMap (trB ws e ns.length))
  | [], b, rows, found, s5, s6, s7, _, _, _, _, _ => ⟨found, _, _, _, _, rfl, by
      have : rows.flatMap (trB ws e 0) = [] := by rw [List.flatMap_eq_nil_iff]; intro x _; rfl
      show found.Perm (found ++ rows.flatMap (trB ws e 0))
      rw [this, List.append_nil]⟩
  | i :: ns, b, rows, found, s5, s6, s7, h5, h6, h7, h, hb => by
    rw [List.length_cons] at hb h
    have hG : gSet 5 (.int i) [.dt (netD n ws), .dt S, .dt (.int e), .dt (.nd (.lst b) (rows.map em)), .dt (lD found), s5, s6, s7, .un, .un] = .ok () [.dt (netD n ws), .dt S, .dt (.int e), .dt (.nd (.lst b) (rows.map em)), .dt (lD found), .dt (.int i), s6, s7, .un, .un] := by
      rcases h5 with rfl | ⟨x, rfl⟩ <;> rfl
    have g1 := sum_ge (cnt ws e (ns.length + 1)) (cnt_pos ws e _) rows
    have g2 := cnt_grow ws e ns.length rows
    have g3 := sum_ge (cnt ws e ns.length) (cnt_pos ws e _) (grow ws e rows)
    obtain ⟨t, x, ht, e1⟩ := turn_step n ws hw S e b rows found (.dt (.int i)) s6 s7 h6 h7 (fun p hp => ⟨(h p hp).1, by have := (h p hp).2; omega⟩) (by omega) (by omega)
    obtain ⟨f', r, x', y', z', e2, pm⟩ := turns n ws hw S e ns false (grow ws e rows) (found ++ rows.filter (isE e)) (.dt (.int i)) (.dt x) t (.inr ⟨_, rfl⟩) (.inr ⟨_, rfl⟩) ht (fun q hq => by
      obtain ⟨p, hp, hl⟩ := grow_len ws e rows q hq
      have := (h p hp).2
      exact ⟨fun z => by rw [z] at hl; simp at hl, by omega⟩) (by rw [List.length_append]; omega)
    refine ⟨f', r, x', y', z', ?_, ?_⟩
    · rw [show iL (i :: ns) = .int i :: iL ns from rfl, forL, hG]
      dsimp only
      rw [e1]
      exact e2
    · refine pm.trans ?_
      rw [List.append_assoc]
      exact (grow_perm ws e ns.length rows).append_left found
/-- _law_trails -/
theorem trails_ok (n : Nat) (s e : Int) (ws : Wy) (hn : n < 500) (hw : ws.length < 1000) (hb : cnt ws e n [s] < 1000000) :
    F__law_trails [netD n ws, .int s, .int e] = .ok (.nd .tup ((srt (trB ws e n [s])).map em)) [.non, .non, .non] := by
  obtain ⟨ns, en, hns⟩ := EE.upTo_iL 0 n
  obtain ⟨f', r, x, y, z, e1, pm⟩ := turns n ws hw (.int s) e ns true [[s]] [] .un .un .un (.inl rfl) (.inl rfl) (.inl rfl) (fun p hp => by rw [List.mem_singleton.mp hp]; exact ⟨by simp, by simp; omega⟩) (by rw [hns]; simpa using hb)
  rw [hns] at pm
  have pm : f'.Perm (trB ws e n [s]) := by simpa using pm
  have e1 : forL (gSet 5) b__law_trails_6 (iL ns) [.dt (netD n ws), .dt (.int s), .dt (.int e), .dt (.nd (.lst true) [.nd .tup [.int s]]), .dt (.nd (.lst true) []), .un, .un, .un, .un, .un] = _ := e1
  have e2 : (f'.map em).mergeSort dLe = (srt (trB ws e n [s])).map em := by rw [em_srt, srt_perm pm]
  have mem : ∀ q ∈ trB ws e n [s], q ≠ [] := fun q hq z => by
    cases n with
    | zero => cases hq
    | succ k => rw [trB_eq] at hq; have := tr_len hq; rw [z] at this; simp at this
  have len : ∀ k p, (trB ws e k p).length ≤ cnt ws e k p := fun k => by
    induction k with
    | zero => intro p; exact Nat.zero_le _
    | succ k ih =>
      intro p
      rw [trB, cnt]
      split
      · simp
      · rw [List.length_flatMap]
        have : ∀ l : List Pt, (l.map fun c => (trB ws e k c).length).sum ≤ (l.map (cnt ws e k)).sum := fun l => by
          induction l with
          | nil => exact Nat.le_refl _
          | cons c l ih2 =>
            have := ih c
            simp only [List.map_cons, List.sum_cons]; omega
        have := this (nxt ws p)
        omega
  have hS : Srt (f'.map em) := srt_ok f' (fun p hp => mem p (pm.subset hp)) (Nat.le_trans (show f'.length ≤ 1000000 by have := len n [s]; have := pm.length_eq; omega) (by decide))
  have f1 := emF (srt (trB ws e n [s]))
  have wF := wyF ws
  have sN : Sm (n : Int) := sm_of (by omega) (by omega)
  have ix0 : sIx (netD n ws) (.int 0) = some (.int n) := by
    unfold netD
    simp [rho0, fSeq, fIfS, fB, fOp2, fOp1, fC, fName, slot, Sl.dat, out2, out1, sIx, seqOf_tup, seqOf_lst, atI, ixN, D.isF, D.isFL, Kd.isF, sGt, sLt, sLe, sGe, s2I, tstB, fAsg, asg, gSet, fOwn, own, ownB, fFz, fzz, fCall, faCons, faApp, faNil, outL, rds, sInt, sMod, sDiv, sSub, sAdd, sMul, gStore, isOwn, stB, wbS, fRet, fMv, mv, rtn, lent, fTup, fLst, outTup, outLst, valsOf, fIf, ftNot, ftAnd, ftOr, fAnd, fOr, fNot, fNx, fBk, fCt, fDrop, fRetN, sIsN, D.isN, sIsI, fIsI, tyD, sLen, sAbs, sMax2, sMin2, sTuple, sList, sLZ, sNeg, s1I, fCallU, callU, pairs, argsOf, lends, wb, fApp, appB, chg, mApp, fExt, extB, mExt, fPop, mPop, fPopAt, popB, mPopAt, EE.gTup, gAll, fPar, par, fAug, sIpA, sIpS, sEqI, sNeI, fiRng1, fiRng2, rng1, rng2, fiSeq, iti, itm, fiEnum, enumI, fiZip, zipI, fYes, fLC, lcEnd, fFor, forL, lcL, wipeR, backR, wF]
  have tn : Int.toNat ((n : Nat) : Int) = n := Int.toNat_natCast n
  rw [F__law_trails_eq, runF_def, b__law_trails_eq]
  unfold lD at e1
  simp [rho0, fSeq, fIfS, fB, fOp2, fOp1, fC, fName, slot, Sl.dat, out2, out1, seqOf_tup, seqOf_lst, atI, ixN, D.isF, D.isFL, Kd.isF, sGt, sLt, sLe, sGe, s2I, tstB, fAsg, asg, gSet, fOwn, own, ownB, fFz, fzz, fCall, faCons, faApp, faNil, outL, rds, sInt, sMod, sDiv, sSub, sMul, gStore, isOwn, stB, wbS, fRet, fMv, mv, rtn, lent, fTup, fLst, outTup, outLst, valsOf, fIf, ftNot, ftAnd, ftOr, fAnd, fOr, fNot, fNx, fBk, fCt, fDrop, fRetN, sIsN, D.isN, sIsI, fIsI, tyD, sLen, sAbs, sMax2, sMin2, sTuple, sList, sLZ, sNeg, s1I, fCallU, callU, pairs, argsOf, lends, wb, fApp, appB, chg, mApp, fExt, extB, mExt, fPop, mPop, fPopAt, popB, mPopAt, EE.gTup, gAll, fPar, par, fAug, sIpA, sIpS, sEqI, sNeI, fiRng1, fiRng2, rng1, rng2, fiSeq, iti, itm, fiEnum, enumI, fiZip, zipI, fYes, fLC, lcEnd, fFor, forL, lcL, wipeR, backR, sl1, ix0, sN, tn, en, e1, sSorted, lstOf, hS, e2, f1]
end K00

namespace K00
open PySem PySem.Spec
open PyProof.Rows hiding St
open L2 EE
theorem short_loop (N S E : D) (m : Nat) (hm : m < 500) : ∀ (rows acc : List Pt), acc.length + rows.length < 10000000 →
    lcL (gSet 4) b__law_short_2 b__law_short_1 [4] (rows.map em) (acc.map em) [.dt N, .dt S, .dt E, .dt (.int m), .un] = .ok ((acc ++ rows.filter fun q => decide (q.length ≤ m + 1)).map em) [.dt N, .dt S, .dt E, .dt (.int m), .un]
  | [], acc, _ => by simp [lcL]
  | p :: rows, acc, hl => by
    rw [List.length_cons] at hl
    rw [List.map_cons, lcL]
    have hG : gSet 4 (em p) [.dt N, .dt S, .dt E, .dt (.int m), .un] = .ok () [.dt N, .dt S, .dt E, .dt (.int m), .dt (em p)] := rfl
    rw [hG]
    dsimp only
    have hF := em_F p
    have hT : b__law_short_2 [.dt N, .dt S, .dt E, .dt (.int m), .dt (em p)] = .ok (decide (((p.length : Nat) : Int) ≤ (m : Int) + 1)) [.dt N, .dt S, .dt E, .dt (.int m), .dt (em p)] := by
      rw [b__law_short_2_eq]
      simp [rho0, fSeq, fIfS, fB, fOp2, fOp1, fC, fName, slot, Sl.dat, out2, out1, sIx, seqOf_tup, seqOf_lst, atI, ixN, D.isF, D.isFL, Kd.isF, sGt, sLt, sLe, sGe, s2I, tstB, fAsg, asg, gSet, fOwn, own, ownB, fFz, fzz, fCall, faCons, faApp, faNil, outL, rds, sInt, sMod, sDiv, sSub, sAdd, sMul, gStore, isOwn, stB, wbS, fRet, fMv, mv, rtn, lent, fTup, fLst, outTup, outLst, valsOf, fIf, ftNot, ftAnd, ftOr, fAnd, fOr, fNot, fNx, fBk, fCt, fDrop, fRetN, sIsN, D.isN, sIsI, fIsI, tyD, sLen, sAbs, sMax2, sMin2, sTuple, sList, sLZ, sNeg, s1I, fCallU, callU, pairs, argsOf, lends, wb, fApp, appB, chg, mApp, fExt, extB, mExt, fPop, mPop, fPopAt, popB, mPopAt, EE.gTup, gAll, fPar, par, fAug, sIpA, sIpS, sEqI, sNeI, fiRng1, fiRng2, rng1, rng2, fiSeq, iti, itm, fiEnum, enumI, fiZip, zipI, fYes, fLC, lcEnd, fFor, forL, lcL, wipeR, backR, ]
    have hE : b__law_short_1 [.dt N, .dt S, .dt E, .dt (.int m), .dt (em p)] = .ok (.val (em p)) [.dt N, .dt S, .dt E, .dt (.int m), .dt (em p)] := by
      rw [b__law_short_1_eq]
      simp only [fOwn, fName, slot, Sl.dat, List.getElem?_cons_succ, List.getElem?_cons_zero, Out.bind_ok, own, ownB, hF, if_true]
    by_cases hc : p.length ≤ m + 1
    · have hd : decide (((p.length : Nat) : Int) ≤ (m : Int) + 1) = true := decide_eq_true (by omega)
      rw [hd] at hT
      rw [hT]
      dsimp only
      rw [hE]
      dsimp only
      rw [if_pos (by rw [List.length_map]; exact Nat.lt_of_lt_of_le (show acc.length < 10000000 by omega) (by decide))]
      have ih := short_loop N S E m hm rows (acc ++ [p]) (by simp; omega)
      rw [List.map_append] at ih
      rw [List.filter_cons_of_pos (p := fun q : Pt => decide (q.length ≤ m + 1)) (l := rows) (decide_eq_true hc), show acc ++ p :: rows.filter (fun q => decide (q.length ≤ m + 1)) = acc ++ [p] ++ rows.filter (fun q => decide (q.length ≤ m + 1)) by simp]
      exact ih
    · have hd : decide (((p.length : Nat) : Int) ≤ (m : Int) + 1) = false := decide_eq_false (by omega)
      rw [hd] at hT
      rw [hT]
      dsimp only
      rw [List.filter_cons_of_neg (by simpa using hc)]
      exact short_loop N S E m hm rows acc (by omega)
theorem lshort_ok (n : Nat) (s e : Int) (ws : Wy) (m : Nat) (hn : n < 500) (hm : m ≤ n) (hw : ws.length < 1000) (hr : ∀ w ∈ ws, 0 ≤ w.2 ∧ w.2 < n) (hs : 0 ≤ s ∧ s < n) (hb : cnt ws e n [s] < 1000000) (hl : (trB ws e n [s]).length < 1000000) :
    F__law_short [netD n ws, .int s, .int e, .int m] = .ok (.nd .tup ((srt (tr ws e m [s])).map em)) [.non, .non, .non, .non] := by
  have e1 := trails_ok n s e ws hn hw hb
  have hsl : (srt (trB ws e n [s])).length = (trB ws e n [s]).length := List.length_mergeSort _
  have e2 := short_loop (netD n ws) (.int s) (.int e) m (by omega) (srt (trB ws e n [s])) [] (by rw [hsl]; simp; omega)
  rw [List.nil_append, srt_filter, tr_short hr hs hm] at e2
  have e2 : lcL (gSet 4) b__law_short_2 b__law_short_1 [4] ((srt (trB ws e n [s])).map em) [] [.dt (netD n ws), .dt (.int s), .dt (.int e), .dt (.int m), .un] = _ := e2
  have f1 := emF (srt (trB ws e n [s]))
  have f2 := emF (srt (tr ws e m [s]))
  have nF := netF n ws
  rw [F__law_short_eq, runF_def, b__law_short_eq]
  simp [rho0, fSeq, fIfS, fB, fOp2, fOp1, fC, fName, slot, Sl.dat, out2, out1, sIx, seqOf_tup, seqOf_lst, atI, ixN, D.isF, D.isFL, Kd.isF, sGt, sLt, sLe, sGe, s2I, tstB, fAsg, asg, gSet, fOwn, own, ownB, fFz, fzz, fCall, faCons, faApp, faNil, outL, rds, sInt, sMod, sDiv, sSub, sAdd, sMul, gStore, isOwn, stB, wbS, fRet, fMv, mv, rtn, lent, fTup, fLst, outTup, outLst, valsOf, fIf, ftNot, ftAnd, ftOr, fAnd, fOr, fNot, fNx, fBk, fCt, fDrop, fRetN, sIsN, D.isN, sIsI, fIsI, tyD, sLen, sAbs, sMax2, sMin2, sTuple, sList, sLZ, sNeg, s1I, fCallU, callU, pairs, argsOf, lends, wb, fApp, appB, chg, mApp, fExt, extB, mExt, fPop, mPop, fPopAt, popB, mPopAt, EE.gTup, gAll, fPar, par, fAug, sIpA, sIpS, sEqI, sNeI, fiRng1, fiRng2, rng1, rng2, fiSeq, iti, itm, fiEnum, enumI, fiZip, zipI, fYes, fLC, lcEnd, fFor, forL, lcL, wipeR, backR, nF, e1, f1, f2, e2]
/-! bounds by out-degree -/
theorem cnt_le (ws : Wy) (e : Int) (hd : ∀ h, (sp ws h).length ≤ 6) : ∀ (k : Nat) (p : Pt), cnt ws e k p ≤ 7 ^ (k + 1) / 1 - 0 ∧ (tr ws e k p).length ≤ 6 ^ k
  | 0, p => by
    constructor
    · show 1 ≤ 7 ^ 1 / 1 - 0; decide
    · rw [tr]; split <;> simp
  | k + 1, p => by
    have nl : (nxt ws p).length ≤ 6 := by
      rw [nxt_sp, List.length_map]
      exact Nat.le_trans (List.length_filter_le _ _) (hd _)
    have s1 : ∀ l : List Pt, (l.map (cnt ws e k)).sum ≤ l.length * 7 ^ (k + 1) := fun l => by
      induction l with
      | nil => simp
      | cons c l ih =>
        have := (cnt_le ws e hd k c).1
        simp only [List.map_cons, List.sum_cons, List.length_cons, Nat.succ_mul, Nat.div_one, Nat.sub_zero] at this ⊢
        omega
    have s2 : ∀ l : List Pt, (l.flatMap (tr ws e k)).length ≤ l.length * 6 ^ k := fun l => by
      induction l with
      | nil => simp
      | cons c l ih =>
        have := (cnt_le ws e hd k c).2
        simp only [List.flatMap_cons, List.length_append, List.length_cons, Nat.succ_mul]
        omega
    have t1 := s1 (nxt ws p)
    have t2 := s2 (nxt ws p)
    have m1 : (nxt ws p).length * 7 ^ (k + 1) ≤ 6 * 7 ^ (k + 1) := Nat.mul_le_mul_right _ nl
    have m2 : (nxt ws p).length * 6 ^ k ≤ 6 * 6 ^ k := Nat.mul_le_mul_right _ nl
    have p1 : 1 ≤ 7 ^ (k + 1) := Nat.pos_of_ne_zero (by simp)
    have p2 : 1 ≤ 6 ^ (k + 1) := Nat.pos_of_ne_zero (by simp)
    constructor
    · rw [cnt, Nat.div_one, Nat.sub_zero, Nat.pow_succ 7 (k + 1)]
      split <;> omega
    · rw [tr, Nat.pow_succ]
      split
      · rw [Nat.pow_succ] at p2; simpa using p2
      · omega
end K00

namespace K00
open PySem PySem.Spec
open PyProof.Rows hiding St
open L2 EE
def rk (mu : Bool) (w : Int × Int) : Int := if mu then min w.1 w.2 * 10 + max w.1 w.2 else w.1 * 10 + w.2
structure Ok (mu : Bool) (n r : Int) (ws : Wy) : Prop where
  nd : ws.Nodup
  rng : ∀ w ∈ ws, (0 ≤ w.1 ∧ w.1 < n) ∧ 0 ≤ w.2 ∧ w.2 < n
  low : ∀ w ∈ ws, rk mu w < r
  len : (ws.length : Int) ≤ 2 * r
theorem Ok.up {mu : Bool} {n r r' : Int} {ws : Wy} (h : Ok mu n r ws) (hr : r ≤ r') : Ok mu n r' ws := ⟨h.nd, h.rng, fun w hw => by have := h.low w hw; omega, by have := h.len; omega⟩
def ext (mu : Bool) (i j : Int) (ws : Wy) : Wy := if mu then ws ++ [(i, j), (j, i)] else ws ++ [(i, j)]
theorem Ok.ext {mu : Bool} {n i j : Int} {ws : Wy} (h : Ok mu n (i * 10 + j) ws) (hi : 0 ≤ i ∧ i < n) (hj : 0 ≤ j ∧ j < n) (hc : if mu then i < j else i ≠ j) : Ok mu n (i * 10 + j + 1) (K00.ext mu i j ws) := by
  have no : ∀ w, rk mu w = i * 10 + j → w ∉ ws := fun w e hw => by have := h.low w hw; omega
  unfold K00.ext
  cases mu with
  | true =>
    have hc : i < j := by simpa using hc
    have r1 : rk true (i, j) = i * 10 + j := by show min i j * 10 + max i j = _; omega
    have r2 : rk true (j, i) = i * 10 + j := by show min j i * 10 + max j i = _; omega
    rw [if_pos rfl]
    refine ⟨List.nodup_append.mpr ⟨h.nd, ?_, fun a ha b hb q => ?_⟩, fun w hw => ?_, fun w hw => ?_, ?_⟩
    · rw [List.nodup_cons]
      refine ⟨fun z => ?_, by simp⟩
      have z := List.mem_singleton.mp z
      injection z with z1 z2
      omega
    · subst q
      simp only [List.mem_cons, List.not_mem_nil, or_false] at hb
      rcases hb with rfl | rfl
      · exact no _ r1 ha
      · exact no _ r2 ha
    · rcases List.mem_append.mp hw with hw | hw
      · exact h.rng w hw
      · simp only [List.mem_cons, List.not_mem_nil, or_false] at hw
        rcases hw with rfl | rfl
        · exact ⟨hi, hj⟩
        · exact ⟨hj, hi⟩
    · rcases List.mem_append.mp hw with hw | hw
      · have := h.low w hw; omega
      · simp only [List.mem_cons, List.not_mem_nil, or_false] at hw
        rcases hw with rfl | rfl
        · rw [r1]; omega
        · rw [r2]; omega
    · have := h.len
      simp only [List.length_append, List.length_cons, List.length_nil]
      omega
  | false =>
    have r1 : rk false (i, j) = i * 10 + j := rfl
    rw [if_neg (by decide)]
    refine ⟨List.nodup_append.mpr ⟨h.nd, by simp, fun a ha b hb q => ?_⟩, fun w hw => ?_, fun w hw => ?_, ?_⟩
    · subst q
      rw [List.mem_singleton.mp hb] at ha
      exact no _ r1 ha
    · rcases List.mem_append.mp hw with hw | hw
      · exact h.rng w hw
      · rw [List.mem_singleton.mp hw]; exact ⟨hi, hj⟩
    · rcases List.mem_append.mp hw with hw | hw
      · have := h.low w hw; omega
      · rw [List.mem_singleton.mp hw, r1]; omega
    · have := h.len
      simp only [List.length_append, List.length_cons, List.length_nil]
      omega
abbrev wD (ws : Wy) : D := .nd (.lst true) (ws.map wy)
theorem wayStep (a b n x y i j : Int) (mu : Bool) (ws : Wy) (hy : 0 < y ∧ y < 1000) (hl : ws.length < 1000) : ∃ a' b' ws', (ws' = ws ∨ ((if mu then i < j else i ≠ j) ∧ ws' = ext mu i j ws)) ∧
    b__law_net_1 [.io (bx a b), .dt (.int n), .dt (.bl mu), .dt (.nd .tup [.int x, .int y]), .dt (wD ws), .dt (.int i), .dt (.int j)] = .ok .nx [.io (bx a' b'), .dt (.int n), .dt (.bl mu), .dt (.nd .tup [.int x, .int y]), .dt (wD ws'), .dt (.int i), .dt (.int j)] := by
  obtain ⟨a1, b1, r, r0, r1, e⟩ := take_ok a b y hy.1 (by omega)
  have f1 := wyF ws
  have s1 : ws.length + 2 ≤ sizeLine := Nat.le_trans (show ws.length + 2 ≤ 1002 by omega) (by decide)
  have s2 : ws.length + 1 ≤ sizeLine := Nat.le_trans (show ws.length + 1 ≤ 1002 by omega) (by decide)
  have w1 : wy (i, j) = .nd .tup [.int i, .int j] := rfl
  have w2 : wy (j, i) = .nd .tup [.int j, .int i] := rfl
  cases mu with
  | true =>
    by_cases h1 : i < j
    · by_cases h2 : r < x
      · refine ⟨a1, b1, ext true i j ws, .inr ⟨by simpa using h1, rfl⟩, ?_⟩
        rw [b__law_net_1_eq]
        unfold wD ext
        simp [rho0, fSeq, fIfS, fB, fOp2, fOp1, fC, fName, slot, Sl.dat, out2, out1, sIx, seqOf_tup, seqOf_lst, atI, ixN, D.isF, D.isFL, Kd.isF, sGt, sLt, sLe, sGe, s2I, tstB, fAsg, asg, gSet, fOwn, own, ownB, fFz, fzz, fCall, faCons, faApp, faNil, outL, rds, sInt, sMod, sDiv, sSub, sAdd, sMul, gStore, isOwn, stB, wbS, fRet, fMv, mv, rtn, lent, fTup, fLst, outTup, outLst, valsOf, fIf, ftNot, ftAnd, ftOr, fAnd, fOr, fNot, fNx, fBk, fCt, fDrop, fRetN, sIsN, D.isN, sIsI, fIsI, tyD, sLen, sAbs, sMax2, sMin2, sTuple, sList, sLZ, sNeg, s1I, fCallU, callU, pairs, argsOf, lends, wb, fApp, appB, chg, mApp, fExt, extB, mExt, fPop, mPop, fPopAt, popB, mPopAt, EE.gTup, gAll, fPar, par, fAug, sIpA, sIpS, sEqI, sNeI, fiRng1, fiRng2, rng1, rng2, fiSeq, iti, itm, fiEnum, enumI, fiZip, zipI, fYes, fLC, lcEnd, fFor, forL, lcL, wipeR, backR, ftIf, h1, e, h2, f1, s1, sl2, w1, w2]
      · refine ⟨a1, b1, ws, .inl rfl, ?_⟩
        rw [b__law_net_1_eq]
        unfold wD
        simp [rho0, fSeq, fIfS, fB, fOp2, fOp1, fC, fName, slot, Sl.dat, out2, out1, sIx, seqOf_tup, seqOf_lst, atI, ixN, D.isF, D.isFL, Kd.isF, sGt, sLt, sLe, sGe, s2I, tstB, fAsg, asg, gSet, fOwn, own, ownB, fFz, fzz, fCall, faCons, faApp, faNil, outL, rds, sInt, sMod, sDiv, sSub, sAdd, sMul, gStore, isOwn, stB, wbS, fRet, fMv, mv, rtn, lent, fTup, fLst, outTup, outLst, valsOf, fIf, ftNot, ftAnd, ftOr, fAnd, fOr, fNot, fNx, fBk, fCt, fDrop, fRetN, sIsN, D.isN, sIsI, fIsI, tyD, sLen, sAbs, sMax2, sMin2, sTuple, sList, sLZ, sNeg, s1I, fCallU, callU, pairs, argsOf, lends, wb, fApp, appB, chg, mApp, fExt, extB, mExt, fPop, mPop, fPopAt, popB, mPopAt, EE.gTup, gAll, fPar, par, fAug, sIpA, sIpS, sEqI, sNeI, fiRng1, fiRng2, rng1, rng2, fiSeq, iti, itm, fiEnum, enumI, fiZip, zipI, fYes, fLC, lcEnd, fFor, forL, lcL, wipeR, backR, ftIf, h1, e, h2, f1]
    · refine ⟨a, b, ws, .inl rfl, ?_⟩
      rw [b__law_net_1_eq]
      unfold wD
      simp [rho0, fSeq, fIfS, fB, fOp2, fOp1, fC, fName, slot, Sl.dat, out2, out1, sIx, seqOf_tup, seqOf_lst, atI, ixN, D.isF, D.isFL, Kd.isF, sGt, sLt, sLe, sGe, s2I, tstB, fAsg, asg, gSet, fOwn, own, ownB, fFz, fzz, fCall, faCons, faApp, faNil, outL, rds, sInt, sMod, sDiv, sSub, sAdd, sMul, gStore, isOwn, stB, wbS, fRet, fMv, mv, rtn, lent, fTup, fLst, outTup, outLst, valsOf, fIf, ftNot, ftAnd, ftOr, fAnd, fOr, fNot, fNx, fBk, fCt, fDrop, fRetN, sIsN, D.isN, sIsI, fIsI, tyD, sLen, sAbs, sMax2, sMin2, sTuple, sList, sLZ, sNeg, s1I, fCallU, callU, pairs, argsOf, lends, wb, fApp, appB, chg, mApp, fExt, extB, mExt, fPop, mPop, fPopAt, popB, mPopAt, EE.gTup, gAll, fPar, par, fAug, sIpA, sIpS, sEqI, sNeI, fiRng1, fiRng2, rng1, rng2, fiSeq, iti, itm, fiEnum, enumI, fiZip, zipI, fYes, fLC, lcEnd, fFor, forL, lcL, wipeR, backR, ftIf, h1, f1]
  | false =>
    by_cases h1 : i = j
    · subst h1
      refine ⟨a, b, ws, .inl rfl, ?_⟩
      rw [b__law_net_1_eq]
      unfold wD
      simp [rho0, fSeq, fIfS, fB, fOp2, fOp1, fC, fName, slot, Sl.dat, out2, out1, sIx, seqOf_tup, seqOf_lst, atI, ixN, D.isF, D.isFL, Kd.isF, sGt, sLt, sLe, sGe, s2I, tstB, fAsg, asg, gSet, fOwn, own, ownB, fFz, fzz, fCall, faCons, faApp, faNil, outL, rds, sInt, sMod, sDiv, sSub, sAdd, sMul, gStore, isOwn, stB, wbS, fRet, fMv, mv, rtn, lent, fTup, fLst, outTup, outLst, valsOf, fIf, ftNot, ftAnd, ftOr, fAnd, fOr, fNot, fNx, fBk, fCt, fDrop, fRetN, sIsN, D.isN, sIsI, fIsI, tyD, sLen, sAbs, sMax2, sMin2, sTuple, sList, sLZ, sNeg, s1I, fCallU, callU, pairs, argsOf, lends, wb, fApp, appB, chg, mApp, fExt, extB, mExt, fPop, mPop, fPopAt, popB, mPopAt, EE.gTup, gAll, fPar, par, fAug, sIpA, sIpS, sEqI, sNeI, fiRng1, fiRng2, rng1, rng2, fiSeq, iti, itm, fiEnum, enumI, fiZip, zipI, fYes, fLC, lcEnd, fFor, forL, lcL, wipeR, backR, ftIf, f1]
    · by_cases h2 : r < x
      · refine ⟨a1, b1, ext false i j ws, .inr ⟨by simpa using h1, rfl⟩, ?_⟩
        rw [b__law_net_1_eq]
        unfold wD ext
        simp [rho0, fSeq, fIfS, fB, fOp2, fOp1, fC, fName, slot, Sl.dat, out2, out1, sIx, seqOf_tup, seqOf_lst, atI, ixN, D.isF, D.isFL, Kd.isF, sGt, sLt, sLe, sGe, s2I, tstB, fAsg, asg, gSet, fOwn, own, ownB, fFz, fzz, fCall, faCons, faApp, faNil, outL, rds, sInt, sMod, sDiv, sSub, sAdd, sMul, gStore, isOwn, stB, wbS, fRet, fMv, mv, rtn, lent, fTup, fLst, outTup, outLst, valsOf, fIf, ftNot, ftAnd, ftOr, fAnd, fOr, fNot, fNx, fBk, fCt, fDrop, fRetN, sIsN, D.isN, sIsI, fIsI, tyD, sLen, sAbs, sMax2, sMin2, sTuple, sList, sLZ, sNeg, s1I, fCallU, callU, pairs, argsOf, lends, wb, fApp, appB, chg, mApp, fExt, extB, mExt, fPop, mPop, fPopAt, popB, mPopAt, EE.gTup, gAll, fPar, par, fAug, sIpA, sIpS, sEqI, sNeI, fiRng1, fiRng2, rng1, rng2, fiSeq, iti, itm, fiEnum, enumI, fiZip, zipI, fYes, fLC, lcEnd, fFor, forL, lcL, wipeR, backR, ftIf, h1, e, h2, f1, s2, sl2, sl1, w1, w2]
      · refine ⟨a1, b1, ws, .inl rfl, ?_⟩
        rw [b__law_net_1_eq]
        unfold wD
        simp [rho0, fSeq, fIfS, fB, fOp2, fOp1, fC, fName, slot, Sl.dat, out2, out1, sIx, seqOf_tup, seqOf_lst, atI, ixN, D.isF, D.isFL, Kd.isF, sGt, sLt, sLe, sGe, s2I, tstB, fAsg, asg, gSet, fOwn, own, ownB, fFz, fzz, fCall, faCons, faApp, faNil, outL, rds, sInt, sMod, sDiv, sSub, sAdd, sMul, gStore, isOwn, stB, wbS, fRet, fMv, mv, rtn, lent, fTup, fLst, outTup, outLst, valsOf, fIf, ftNot, ftAnd, ftOr, fAnd, fOr, fNot, fNx, fBk, fCt, fDrop, fRetN, sIsN, D.isN, sIsI, fIsI, tyD, sLen, sAbs, sMax2, sMin2, sTuple, sList, sLZ, sNeg, s1I, fCallU, callU, pairs, argsOf, lends, wb, fApp, appB, chg, mApp, fExt, extB, mExt, fPop, mPop, fPopAt, popB, mPopAt, EE.gTup, gAll, fPar, par, fAug, sIpA, sIpS, sEqI, sNeI, fiRng1, fiRng2, rng1, rng2, fiSeq, iti, itm, fiEnum, enumI, fiZip, zipI, fYes, fLC, lcEnd, fFor, forL, lcL, wipeR, backR, ftIf, h1, e, h2, f1]
theorem inner (n x y i : Int) (mu : Bool) (hy : 0 < y ∧ y < 1000) (hn : n ≤ 6) (hi : 0 ≤ i ∧ i < n) : ∀ (k : Nat) (js : List Int) (a b : Int) (ws : Wy) (s6 : Sl), (s6 = .un ∨ ∃ x, s6 = .dt x) → (∀ (t : Nat), t < js.length → js[t]? = some (((k + t : Nat)) : Int)) → ((k + js.length : Nat) : Int) ≤ n → Ok mu n (i * 10 + k) ws →
    ∃ a' b' ws' t, (t = .un ∨ ∃ x, t = .dt x) ∧ Ok mu n (i * 10 + ((k + js.length : Nat) : Int)) ws' ∧ forL (gSet 6) b__law_net_1 (iL js) [.io (bx a b), .dt (.int n), .dt (.bl mu), .dt (.nd .tup [.int x, .int y]), .dt (wD ws), .dt (.int i), s6] =
      .ok .nx [.io (bx a' b'), .dt (.int n), .dt (.bl mu), .dt (.nd .tup [.int x, .int y]), .dt (wD ws'), .dt (.int i), t]
  | k, [], a, b, ws, s6, h6, _, _, ok => ⟨a, b, ws, s6, h6, by simpa using ok, rfl⟩
  | k, j :: js, a, b, ws, s6, h6, hj, hk, ok => by
    have j0 : j = (k : Int) := by
      have := hj 0 (by simp)
      simpa using this
    rw [List.length_cons] at hk
    have ol := ok.len
    obtain ⟨a1, b1, ws1, hws, e⟩ := wayStep a b n x y i j mu ws hy (by omega)
    have ok1 : Ok mu n (i * 10 + ((k + 1 : Nat) : Int)) ws1 := by
      rcases hws with rfl | ⟨hc, rfl⟩
      · exact ok.up (by omega)
      · rw [j0] at hc ⊢
        exact (ok.ext hi ⟨by omega, by omega⟩ hc).up (by omega)
    obtain ⟨a2, b2, ws2, t, ht, ok2, e2⟩ := inner n x y i mu hy hn hi (k + 1) js a1 b1 ws1 (.dt (.int j)) (.inr ⟨_, rfl⟩) (fun t ht => by
      have := hj (t + 1) (by simp; omega)
      rw [List.getElem?_cons_succ] at this
      rw [this]; congr 2; omega) (by omega) ok1
    refine ⟨a2, b2, ws2, t, ht, by rw [List.length_cons, show k + (js.length + 1) = k + 1 + js.length by omega]; exact ok2, ?_⟩
    have hG : gSet 6 (.int j) [.io (bx a b), .dt (.int n), .dt (.bl mu), .dt (.nd .tup [.int x, .int y]), .dt (wD ws), .dt (.int i), s6] = .ok () [.io (bx a b), .dt (.int n), .dt (.bl mu), .dt (.nd .tup [.int x, .int y]), .dt (wD ws), .dt (.int i), .dt (.int j)] := by
      rcases h6 with rfl | ⟨x, rfl⟩ <;> rfl
    rw [show iL (j :: js) = .int j :: iL js from rfl, forL, hG]
    dsimp only
    rw [e]
    exact e2
end K00

namespace K00
open PySem PySem.Spec
open PyProof.Rows hiding St
open L2 EE
theorem upAt (n : Nat) : ∃ js : List Int, EE.upTo 0 n = iL js ∧ js.length = n ∧ ∀ (t : Nat), t < js.length → js[t]? = some ((t : Nat) : Int) := by
  refine ⟨(List.range n).map fun i => (0 + (i : Nat) : Int), by unfold EE.upTo iL; rw [List.map_map]; rfl, by simp, fun t ht => ?_⟩
  rw [List.length_map, List.length_range] at ht
  rw [List.getElem?_map, List.getElem?_range ht]
  simp
theorem outer (n x y : Int) (mu : Bool) (hy : 0 < y ∧ y < 1000) (hn : n ≤ 6) : ∀ (k : Nat) (js : List Int) (a b : Int) (ws : Wy) (s5 s6 : Sl), (s5 = .un ∨ ∃ x, s5 = .dt x) → (s6 = .un ∨ ∃ x, s6 = .dt x) → (∀ (t : Nat), t < js.length → js[t]? = some (((k + t : Nat)) : Int)) → ((k + js.length : Nat) : Int) ≤ n → Ok mu n (k * 10) ws →
    ∃ a' b' ws' t u, Ok mu n (((k + js.length : Nat) : Int) * 10) ws' ∧ forL (gSet 5) b__law_net_2 (iL js) [.io (bx a b), .dt (.int n), .dt (.bl mu), .dt (.nd .tup [.int x, .int y]), .dt (wD ws), s5, s6] =
      .ok .nx [.io (bx a' b'), .dt (.int n), .dt (.bl mu), .dt (.nd .tup [.int x, .int y]), .dt (wD ws'), t, u]
  | k, [], a, b, ws, s5, s6, h5, h6, _, _, ok => ⟨a, b, ws, s5, s6, by simpa using ok, rfl⟩
  | k, j :: js, a, b, ws, s5, s6, h5, h6, hj, hk, ok => by
    have j0 : j = (k : Int) := by
      have := hj 0 (by simp)
      simpa using this
    rw [List.length_cons] at hk
    have hG : gSet 5 (.int j) [.io (bx a b), .dt (.int n), .dt (.bl mu), .dt (.nd .tup [.int x, .int y]), .dt (wD ws), s5, s6] = .ok () [.io (bx a b), .dt (.int n), .dt (.bl mu), .dt (.nd .tup [.int x, .int y]), .dt (wD ws), .dt (.int j), s6] := by
      rcases h5 with rfl | ⟨x, rfl⟩ <;> rfl
    obtain ⟨ls, en, hls, hlt⟩ := upAt n.toNat
    obtain ⟨a1, b1, ws1, t1, ht1, ok1, e1⟩ := inner n x y j mu hy hn ⟨by omega, by omega⟩ 0 ls a b ws s6 h6 (fun t ht => by rw [hlt t ht]; congr 2; omega) (by omega) (by rw [j0]; exact ok.up (by omega))
    have sN : Sm n := sm_of (by omega) (by omega)
    have e2 : b__law_net_2 [.io (bx a b), .dt (.int n), .dt (.bl mu), .dt (.nd .tup [.int x, .int y]), .dt (wD ws), .dt (.int j), s6] = .ok .nx [.io (bx a1 b1), .dt (.int n), .dt (.bl mu), .dt (.nd .tup [.int x, .int y]), .dt (wD ws1), .dt (.int j), t1] := by
      have f1 := wyF ws
      rw [b__law_net_2_eq]
      unfold wD at e1 ⊢
      simp [rho0, fSeq, fIfS, fB, fOp2, fOp1, fC, fName, slot, Sl.dat, out2, out1, sIx, seqOf_tup, seqOf_lst, atI, ixN, D.isF, D.isFL, Kd.isF, sGt, sLt, sLe, sGe, s2I, tstB, fAsg, asg, gSet, fOwn, own, ownB, fFz, fzz, fCall, faCons, faApp, faNil, outL, rds, sInt, sMod, sDiv, sSub, sAdd, sMul, gStore, isOwn, stB, wbS, fRet, fMv, mv, rtn, lent, fTup, fLst, outTup, outLst, valsOf, fIf, ftNot, ftAnd, ftOr, fAnd, fOr, fNot, fNx, fBk, fCt, fDrop, fRetN, sIsN, D.isN, sIsI, fIsI, tyD, sLen, sAbs, sMax2, sMin2, sTuple, sList, sLZ, sNeg, s1I, fCallU, callU, pairs, argsOf, lends, wb, fApp, appB, chg, mApp, fExt, extB, mExt, fPop, mPop, fPopAt, popB, mPopAt, EE.gTup, gAll, fPar, par, fAug, sIpA, sIpS, sEqI, sNeI, fiRng1, fiRng2, rng1, rng2, fiSeq, iti, itm, fiEnum, enumI, fiZip, zipI, fYes, fLC, lcEnd, fFor, forL, lcL, wipeR, backR, sN, en, e1, f1]
    obtain ⟨a2, b2, ws2, t, u, ok2, e3⟩ := outer n x y mu hy hn (k + 1) js a1 b1 ws1 (.dt (.int j)) t1 (.inr ⟨_, rfl⟩) ht1 (fun t ht => by
      have := hj (t + 1) (by simp; omega)
      rw [List.getElem?_cons_succ] at this
      rw [this]; congr 2; omega) (by omega) (ok1.up (by omega))
    refine ⟨a2, b2, ws2, t, u, by rw [List.length_cons, show k + (js.length + 1) = k + 1 + js.length by omega]; exact ok2, ?_⟩
    rw [show iL (j :: js) = .int j :: iL js from rfl, forL, hG]
    dsimp only
    rw [e2]
    exact e3
end K00

namespace K00
open PySem PySem.Spec
open PyProof.Rows hiding St
open L2 EE
def pt (w : Int × Int) : Pt := [w.1, w.2]
theorem wy_em (w : Int × Int) : wy w = em (pt w) := rfl
theorem ws_srt (ws : Wy) : (ws.map wy).mergeSort dLe = (ws.mergeSort fun a b => le (pt a) (pt b)).map wy :=
  (List.map_mergeSort (r := fun a b => le (pt a) (pt b)) (s := dLe) (f := wy) (l := ws) (fun a _ b _ => (dLe_em (pt a) (pt b)).symm)).symm
theorem ws_Srt (ws : Wy) (hl : ws.length < 1000) : Srt (ws.map wy) := by
  have := srt_ok (ws.map pt) (fun p hp => by
    obtain ⟨w, _, rfl⟩ := List.mem_map.mp hp
    exact List.cons_ne_nil _ _) (by rw [List.length_map]; exact Nat.le_trans (show ws.length ≤ 1000 by omega) (by decide))
  rw [List.map_map] at this
  exact this
structure NetOk (n : Nat) (ws : Wy) : Prop where
  nd : ws.Nodup
  rng : ∀ w ∈ ws, (0 ≤ w.1 ∧ w.1 < n) ∧ 0 ≤ w.2 ∧ w.2 < n
  len : ws.length < 1000
theorem NetOk.sp {n : Nat} {ws : Wy} (h : NetOk n ws) (x : Int) : (sp ws x).length ≤ n := by
  refine inR_len ⟨?_, fun y hy => ?_⟩
  · unfold K00.sp
    rw [List.nodup_iff_pairwise_ne, List.pairwise_map]
    refine List.Pairwise.imp_of_mem (fun {a b} ha hb q hab => ?_) (List.nodup_iff_pairwise_ne.mp (h.nd.filter _))
    have h1 := (List.mem_filter.mp ha).2
    have h2 := (List.mem_filter.mp hb).2
    have h1 : a.1 = x := by simpa using h1
    have h2 : b.1 = x := by simpa using h2
    exact q (Prod.ext (by rw [h1, h2]) hab)
  · obtain ⟨w, hw, rfl⟩ := List.mem_map.mp hy
    exact (h.rng w (List.mem_filter.mp hw).1).2
theorem net_fin (a b : Int) (n : Nat) (mu : Bool) (P : D) (ws : Wy) (t u : Sl) (a0 b0 a1 b1 : Int) (hn : n ≤ 6) (hl : ws.length < 1000) (x y : Int)
    (e0 : F__law_pick [bx a0 b0, .nd (.lst false) [.nd .tup [.int 1, .int 1], .nd .tup [.int 1, .int 2], .nd .tup [.int 2, .int 3], .nd .tup [.int 1, .int 3]]] = .ok (.nd .tup [.int x, .int y]) [bx a1 b1, .non])
    (e1 : forL (gSet 5) b__law_net_2 (EE.upTo 0 n) [.io (bx a1 b1), .dt (.int n), .dt (.bl mu), .dt (.nd .tup [.int x, .int y]), .dt (.nd (.lst true) []), .un, .un] =
      .ok .nx [.io (bx a b), .dt (.int n), .dt (.bl mu), .dt (.nd .tup [.int x, .int y]), .dt (wD ws), t, u]) :
    F__law_net [bx a0 b0, .int n, .bl mu] = .ok (netD n (ws.mergeSort fun a b => le (pt a) (pt b))) [bx a b, .non, .non] := by
  have hS := ws_Srt ws hl
  have es := ws_srt ws
  have f1 := wyF ws
  have f2 := wyF (ws.mergeSort fun a b => le (pt a) (pt b))
  have sN : Sm (n : Int) := sm_of (by omega) (by omega)
  have tn : Int.toNat ((n : Nat) : Int) = n := Int.toNat_natCast n
  rw [F__law_net_eq, runF_def, b__law_net_eq]
  unfold netD
  unfold wD at e1
  generalize hw : (ws.mergeSort fun a b => le (pt a) (pt b)) = ws2 at es f2 ⊢
  simp [rho0, fSeq, fIfS, fB, fOp2, fOp1, fC, fName, slot, Sl.dat, out2, out1, sIx, seqOf_tup, seqOf_lst, atI, ixN, D.isF, D.isFL, Kd.isF, sGt, sLt, sLe, sGe, s2I, tstB, fAsg, asg, gSet, fOwn, own, ownB, fFz, fzz, fCall, faCons, faApp, faNil, outL, rds, sInt, sMod, sDiv, sSub, sAdd, sMul, gStore, isOwn, stB, wbS, fRet, fMv, mv, rtn, lent, fTup, fLst, outTup, outLst, valsOf, fIf, ftNot, ftAnd, ftOr, fAnd, fOr, fNot, fNx, fBk, fCt, fDrop, fRetN, sIsN, D.isN, sIsI, fIsI, tyD, sLen, sAbs, sMax2, sMin2, sTuple, sList, sLZ, sNeg, s1I, fCallU, callU, pairs, argsOf, lends, wb, fApp, appB, chg, mApp, fExt, extB, mExt, fPop, mPop, fPopAt, popB, mPopAt, EE.gTup, gAll, fPar, par, fAug, sIpA, sIpS, sEqI, sNeI, fiRng1, fiRng2, rng1, rng2, fiSeq, iti, itm, fiEnum, enumI, fiZip, zipI, fYes, fLC, lcEnd, fFor, forL, lcL, wipeR, backR, e0, sN, tn, e1, sSorted, lstOf, hS, es, f1, f2, sl0, sl1, sl2, sl3, sl4, D.frz, Kd.frz, D.frzL]
theorem Ok.nil (mu : Bool) (n : Nat) : Ok mu n (((0 : Nat) : Int) * 10) [] := { nd := List.nodup_nil, rng := fun w hw => absurd hw List.not_mem_nil, low := fun w hw => absurd hw List.not_mem_nil, len := by simp }
theorem net_ok (a b : Int) (n : Nat) (mu : Bool) (h0 : 2 ≤ n) (h1 : n ≤ 6) : ∃ a' b' ws, NetOk n ws ∧ F__law_net [bx a b, .int n, .bl mu] = .ok (netD n ws) [bx a' b', .non, .non] := by
  obtain ⟨a1, b1, p, hp, e0⟩ := pick_ok a b (.nd (.lst false) [.nd .tup [.int 1, .int 1], .nd .tup [.int 1, .int 2], .nd .tup [.int 2, .int 3], .nd .tup [.int 1, .int 3]]) _ rfl rfl (by intro x hx; simp only [List.mem_cons, List.not_mem_nil, or_false] at hx; rcases hx with rfl | rfl | rfl | rfl <;> rfl) (by decide) (by decide)
  obtain ⟨x, y, rfl, hy⟩ : ∃ x y : Int, p = .nd .tup [.int x, .int y] ∧ 0 < y ∧ y < 1000 := by
    simp only [List.mem_cons, List.not_mem_nil, or_false] at hp
    rcases hp with rfl | rfl | rfl | rfl <;> exact ⟨_, _, rfl, by decide, by decide⟩
  obtain ⟨js, en, hjs, hjt⟩ := upAt n
  obtain ⟨a2, b2, ws, t, u, ok, e1⟩ := outer n x y mu hy (by omega) 0 js a1 b1 [] .un .un (.inl rfl) (.inl rfl) (fun t ht => by rw [hjt t ht]; congr 2; omega) (by omega) (Ok.nil mu n)
  rw [← en] at e1
  have hl : ws.length < 1000 := by have := ok.len; omega
  have pm : (ws.mergeSort fun a b => le (pt a) (pt b)).Perm ws := List.mergeSort_perm _ _
  exact ⟨a2, b2, _, ⟨pm.nodup_iff.mpr ok.nd, fun w hw => ok.rng w (pm.subset hw), by rw [List.length_mergeSort]; exact hl⟩, net_fin a2 b2 n mu (.int 0) ws t u a b a1 b1 h1 hl x y e0 e1⟩
end K00

namespace K00
open PySem PySem.Spec
open PyProof.Rows hiding St
open L2 EE
theorem wy_ok (k : Nat) (w : Int × Int) : D.ok (k + 2) (wy w) = true := by simp [wy, D.ok, kOk]
theorem wD_ok (b : Bool) (ws : Wy) : D.ok 64 (.nd (.lst b) (ws.map wy)) = true := by
  simp only [D.ok, kOk, Bool.true_and, List.all_eq_true]
  intro x hx
  obtain ⟨w, _, rfl⟩ := List.mem_map.mp hx
  exact wy_ok 61 w
theorem inWs (w : Int × Int) (ws : Wy) : ∃ t : Bool, sIn true (wy w) (.nd .tup (ws.map wy)) = some (.bl t) := by
  unfold sIn
  rw [seqOf_tup]
  dsimp only
  rw [if_pos ⟨wy_ok 62 w, List.all_eq_true.mpr fun x hx => by
    obtain ⟨w, _, rfl⟩ := List.mem_map.mp hx
    exact wy_ok 62 w⟩]
  exact ⟨_, rfl⟩
theorem net0 (n : Int) (ws : Wy) : sIx (netD n ws) (.int 0) = some (.int n) := by
  have wF := wyF ws
  unfold netD
  simp [rho0, fSeq, fIfS, fB, fOp2, fOp1, fC, fName, slot, Sl.dat, out2, out1, sIx, seqOf_tup, seqOf_lst, atI, ixN, D.isF, D.isFL, Kd.isF, sGt, sLt, sLe, sGe, s2I, tstB, fAsg, asg, gSet, fOwn, own, ownB, fFz, fzz, fCall, faCons, faApp, faNil, outL, rds, sInt, sMod, sDiv, sSub, sAdd, sMul, gStore, isOwn, stB, wbS, fRet, fMv, mv, rtn, lent, fTup, fLst, outTup, outLst, valsOf, fIf, ftNot, ftAnd, ftOr, fAnd, fOr, fNot, fNx, fBk, fCt, fDrop, fRetN, sIsN, D.isN, sIsI, fIsI, tyD, sLen, sAbs, sMax2, sMin2, sTuple, sList, sLZ, sNeg, s1I, fCallU, callU, pairs, argsOf, lends, wb, fApp, appB, chg, mApp, fExt, extB, mExt, fPop, mPop, fPopAt, popB, mPopAt, EE.gTup, gAll, fPar, par, fAug, sIpA, sIpS, sEqI, sNeI, fiRng1, fiRng2, rng1, rng2, fiSeq, iti, itm, fiEnum, enumI, fiZip, zipI, fYes, fLC, lcEnd, fFor, forL, lcL, wipeR, backR, wF]
theorem net1 (n : Int) (ws : Wy) : sIx (netD n ws) (.int 1) = some (.nd .tup (ws.map wy)) := by
  have wF := wyF ws
  unfold netD
  simp [rho0, fSeq, fIfS, fB, fOp2, fOp1, fC, fName, slot, Sl.dat, out2, out1, sIx, seqOf_tup, seqOf_lst, atI, ixN, D.isF, D.isFL, Kd.isF, sGt, sLt, sLe, sGe, s2I, tstB, fAsg, asg, gSet, fOwn, own, ownB, fFz, fzz, fCall, faCons, faApp, faNil, outL, rds, sInt, sMod, sDiv, sSub, sAdd, sMul, gStore, isOwn, stB, wbS, fRet, fMv, mv, rtn, lent, fTup, fLst, outTup, outLst, valsOf, fIf, ftNot, ftAnd, ftOr, fAnd, fOr, fNot, fNx, fBk, fCt, fDrop, fRetN, sIsN, D.isN, sIsI, fIsI, tyD, sLen, sAbs, sMax2, sMin2, sTuple, sList, sLZ, sNeg, s1I, fCallU, callU, pairs, argsOf, lends, wb, fApp, appB, chg, mApp, fExt, extB, mExt, fPop, mPop, fPopAt, popB, mPopAt, EE.gTup, gAll, fPar, par, fAug, sIpA, sIpS, sEqI, sNeI, fiRng1, fiRng2, rng1, rng2, fiSeq, iti, itm, fiEnum, enumI, fiZip, zipI, fYes, fLC, lcEnd, fFor, forL, lcL, wipeR, backR, wF]
theorem pick_w (a b : Int) (ps : Wy) (h : ps ≠ []) (hl : ps.length < 1000) : ∃ a' b' w, w ∈ ps ∧ F__law_pick [bx a b, .nd (.lst false) (ps.map wy)] = .ok (wy w) [bx a' b', .non] := by
  have hf := wyF ps
  have hp : 0 < ps.length := List.length_pos_iff.mpr h
  obtain ⟨a', b', x, hx, e⟩ := pick_ok a b (.nd (.lst false) (ps.map wy)) (ps.map wy) rfl (by show (true && D.isFL (ps.map wy)) = true; rw [hf]; rfl) (D.isFL_iff.mp hf) (by simpa using hp) (by rw [List.length_map]; omega)
  obtain ⟨w, hw, rfl⟩ := List.mem_map.mp hx
  exact ⟨a', b', w, hw, e⟩
theorem far_loop (B : Sl) (n : Int) (ws : Wy) (P s3 s4 s5 : Sl) : ∀ (ps acc : Wy), acc.length + ps.length < 1000 →
    ∃ fs : Wy, (∀ w ∈ fs, w ∈ acc ∨ w ∈ ps) ∧ fs.length ≤ acc.length + ps.length ∧ lcL (gSet 6) b__law_ends_3 b__law_ends_2 [6] (ps.map wy) (acc.map wy) [B, .dt (netD n ws), P, s3, s4, s5, .un] = .ok (fs.map wy) [B, .dt (netD n ws), P, s3, s4, s5, .un]
  | [], acc, _ => ⟨acc, fun w hw => .inl hw, Nat.le_refl _, by simp [lcL]⟩
  | w :: ps, acc, hl => by
    rw [List.length_cons] at hl
    have hG : gSet 6 (wy w) [B, .dt (netD n ws), P, s3, s4, s5, .un] = .ok () [B, .dt (netD n ws), P, s3, s4, s5, .dt (wy w)] := rfl
    obtain ⟨t, ht⟩ := inWs w ws
    have h1 := net1 n ws
    have hT : b__law_ends_3 [B, .dt (netD n ws), P, s3, s4, s5, .dt (wy w)] = .ok t [B, .dt (netD n ws), P, s3, s4, s5, .dt (wy w)] := by
      rw [b__law_ends_3_eq]
      simp [rho0, fSeq, fIfS, fB, fOp2, fOp1, fC, fName, slot, Sl.dat, out2, out1, seqOf_tup, seqOf_lst, atI, ixN, D.isF, D.isFL, Kd.isF, sGt, sLt, sLe, sGe, s2I, tstB, fAsg, asg, gSet, fOwn, own, ownB, fFz, fzz, fCall, faCons, faApp, faNil, outL, rds, sInt, sMod, sDiv, sSub, sMul, gStore, isOwn, stB, wbS, fRet, fMv, mv, rtn, lent, fTup, fLst, outTup, outLst, valsOf, fIf, ftNot, ftAnd, ftOr, fAnd, fOr, fNot, fNx, fBk, fCt, fDrop, fRetN, sIsN, D.isN, sIsI, fIsI, tyD, sLen, sAbs, sMax2, sMin2, sTuple, sList, sLZ, sNeg, s1I, fCallU, callU, pairs, argsOf, lends, wb, fApp, appB, chg, mApp, fExt, extB, mExt, fPop, mPop, fPopAt, popB, mPopAt, EE.gTup, gAll, fPar, par, fAug, sIpA, sIpS, sEqI, sNeI, fiRng1, fiRng2, rng1, rng2, fiSeq, iti, itm, fiEnum, enumI, fiZip, zipI, fYes, fLC, lcEnd, fFor, forL, lcL, wipeR, backR, h1, ht]
    have wF : (wy w).isF = true := rfl
    have wz := frz_id _ wF
    have hE : b__law_ends_2 [B, .dt (netD n ws), P, s3, s4, s5, .dt (wy w)] = .ok (.val (wy w)) [B, .dt (netD n ws), P, s3, s4, s5, .dt (wy w)] := by
      rw [b__law_ends_2_eq]
      simp [rho0, fSeq, fIfS, fB, fOp2, fOp1, fC, fName, slot, Sl.dat, out2, out1, seqOf_tup, seqOf_lst, atI, ixN, D.isF, D.isFL, Kd.isF, sGt, sLt, sLe, sGe, s2I, tstB, fAsg, asg, gSet, fOwn, own, ownB, fFz, fzz, fCall, faCons, faApp, faNil, outL, rds, sInt, sMod, sDiv, sSub, sMul, gStore, isOwn, stB, wbS, fRet, fMv, mv, rtn, lent, fTup, fLst, outTup, outLst, valsOf, fIf, ftNot, ftAnd, ftOr, fAnd, fOr, fNot, fNx, fBk, fCt, fDrop, fRetN, sIsN, D.isN, sIsI, fIsI, tyD, sLen, sAbs, sMax2, sMin2, sTuple, sList, sLZ, sNeg, s1I, fCallU, callU, pairs, argsOf, lends, wb, fApp, appB, chg, mApp, fExt, extB, mExt, fPop, mPop, fPopAt, popB, mPopAt, EE.gTup, gAll, fPar, par, fAug, sIpA, sIpS, sEqI, sNeI, fiRng1, fiRng2, rng1, rng2, fiSeq, iti, itm, fiEnum, enumI, fiZip, zipI, fYes, fLC, lcEnd, fFor, forL, lcL, wipeR, backR, wF, wz]
    cases t with
    | true =>
      obtain ⟨fs, hm, hn, e⟩ := far_loop B n ws P s3 s4 s5 ps (acc ++ [w]) (by simp; omega)
      refine ⟨fs, fun x hx => ?_, by simp at hn ⊢; omega, ?_⟩
      · rcases hm x hx with h | h
        · rcases List.mem_append.mp h with h | h
          · exact .inl h
          · rw [List.mem_singleton.mp h]; exact .inr List.mem_cons_self
        · exact .inr (List.mem_cons_of_mem _ h)
      · rw [List.map_cons, lcL, hG]
        dsimp only
        rw [hT]
        dsimp only
        rw [hE]
        dsimp only
        rw [if_pos (by rw [List.length_map]; exact Nat.lt_of_lt_of_le (show acc.length < 1000 by omega) (by decide))]
        rw [List.map_append] at e
        exact e
    | false =>
      obtain ⟨fs, hm, hn, e⟩ := far_loop B n ws P s3 s4 s5 ps acc (by omega)
      refine ⟨fs, fun x hx => ?_, by simp at hn ⊢; omega, ?_⟩
      · rcases hm x hx with h | h
        · exact .inl h
        · exact .inr (List.mem_cons_of_mem _ h)
      · rw [List.map_cons, lcL, hG]
        dsimp only
        rw [hT]
        dsimp only
        exact e
theorem pair_loop (n : Nat) (h0 : 0 < n) (hn : n ≤ 6) (ws : Wy) : ∀ (js : List Int) (a b : Int) (ps : Wy) (s3 s4 : Sl), (s3 = .un ∨ ∃ x, s3 = .dt x) → (s4 = .un ∨ ∃ x, s4 = .dt x) → (∀ j ∈ js, 0 ≤ j ∧ j < (n : Int)) → (∀ w ∈ ps, (0 ≤ w.1 ∧ w.1 < (n : Int)) ∧ 0 ≤ w.2 ∧ w.2 < (n : Int)) → ps.length + js.length < 1000 →
    ∃ a' b' qs t u, (∀ w ∈ qs, (0 ≤ w.1 ∧ w.1 < (n : Int)) ∧ 0 ≤ w.2 ∧ w.2 < (n : Int)) ∧ qs.length < 1000 ∧ forL (gSet 3) b__law_ends_1 (iL js) [.io (bx a b), .dt (netD n ws), .dt (wD ps), s3, s4, .un, .un] =
      .ok .nx [.io (bx a' b'), .dt (netD n ws), .dt (wD qs), t, u, .un, .un]
  | [], a, b, ps, s3, s4, _, _, _, hp, hl => ⟨a, b, ps, s3, s4, hp, by simpa using hl, rfl⟩
  | j :: js, a, b, ps, s3, s4, h3, h4, hj, hp, hl => by
    rw [List.length_cons] at hl
    have jr := hj j List.mem_cons_self
    have hG : gSet 3 (.int j) [.io (bx a b), .dt (netD n ws), .dt (wD ps), s3, s4, .un, .un] = .ok () [.io (bx a b), .dt (netD n ws), .dt (wD ps), .dt (.int j), s4, .un, .un] := by
      rcases h3 with rfl | ⟨x, rfl⟩ <;> rfl
    obtain ⟨a1, b1, r, r0, r1, e⟩ := take_ok a b n (by omega) (by omega)
    have i0 := net0 n ws
    have f1 := wyF ps
    have s1 : ps.length < sizeLine := Nat.lt_of_lt_of_le (show ps.length < 1000 by omega) (by decide)
    have step : ∃ qs : Wy, (∀ w ∈ qs, (0 ≤ w.1 ∧ w.1 < (n : Int)) ∧ 0 ≤ w.2 ∧ w.2 < (n : Int)) ∧ qs.length ≤ ps.length + 1 ∧ b__law_ends_1 [.io (bx a b), .dt (netD n ws), .dt (wD ps), .dt (.int j), s4, .un, .un] = .ok .nx [.io (bx a1 b1), .dt (netD n ws), .dt (wD qs), .dt (.int j), .dt (.int r), .un, .un] := by
      by_cases hjr : j = r
      · refine ⟨ps, hp, by omega, ?_⟩
        rw [b__law_ends_1_eq]
        rcases h4 with rfl | ⟨x, rfl⟩ <;> simp [rho0, fSeq, fIfS, fB, fOp2, fOp1, fC, fName, slot, Sl.dat, out2, out1, seqOf_tup, seqOf_lst, atI, ixN, D.isF, D.isFL, Kd.isF, sGt, sLt, sLe, sGe, s2I, tstB, fAsg, asg, gSet, fOwn, own, ownB, fFz, fzz, fCall, faCons, faApp, faNil, outL, rds, sInt, sMod, sDiv, sSub, sMul, gStore, isOwn, stB, wbS, fRet, fMv, mv, rtn, lent, fTup, fLst, outTup, outLst, valsOf, fIf, ftNot, ftAnd, ftOr, fAnd, fOr, fNot, fNx, fBk, fCt, fDrop, fRetN, sIsN, D.isN, sIsI, fIsI, tyD, sLen, sAbs, sMax2, sMin2, sTuple, sList, sLZ, sNeg, s1I, fCallU, callU, pairs, argsOf, lends, wb, fApp, appB, chg, mApp, fExt, extB, mExt, fPop, mPop, fPopAt, popB, mPopAt, EE.gTup, gAll, fPar, par, fAug, sIpA, sIpS, sEqI, sNeI, fiRng1, fiRng2, rng1, rng2, fiSeq, iti, itm, fiEnum, enumI, fiZip, zipI, fYes, fLC, lcEnd, fFor, forL, lcL, wipeR, backR, i0, e, hjr, sNe, okI, D.eqb, f1]
      · refine ⟨ps ++ [(j, r)], fun w hw => ?_, by simp, ?_⟩
        · rcases List.mem_append.mp hw with hw | hw
          · exact hp w hw
          · rw [List.mem_singleton.mp hw]; exact ⟨jr, r0, r1⟩
        · rw [b__law_ends_1_eq]
          unfold wD
          rcases h4 with rfl | ⟨x, rfl⟩ <;> simp [rho0, fSeq, fIfS, fB, fOp2, fOp1, fC, fName, slot, Sl.dat, out2, out1, seqOf_tup, seqOf_lst, atI, ixN, D.isF, D.isFL, Kd.isF, sGt, sLt, sLe, sGe, s2I, tstB, fAsg, asg, gSet, fOwn, own, ownB, fFz, fzz, fCall, faCons, faApp, faNil, outL, rds, sInt, sMod, sDiv, sSub, sMul, gStore, isOwn, stB, wbS, fRet, fMv, mv, rtn, lent, fTup, fLst, outTup, outLst, valsOf, fIf, ftNot, ftAnd, ftOr, fAnd, fOr, fNot, fNx, fBk, fCt, fDrop, fRetN, sIsN, D.isN, sIsI, fIsI, tyD, sLen, sAbs, sMax2, sMin2, sTuple, sList, sLZ, sNeg, s1I, fCallU, callU, pairs, argsOf, lends, wb, fApp, appB, chg, mApp, fExt, extB, mExt, fPop, mPop, fPopAt, popB, mPopAt, EE.gTup, gAll, fPar, par, fAug, sIpA, sIpS, sEqI, sNeI, fiRng1, fiRng2, rng1, rng2, fiSeq, iti, itm, fiEnum, enumI, fiZip, zipI, fYes, fLC, lcEnd, fFor, forL, lcL, wipeR, backR, i0, e, hjr, sNe, okI, D.eqb, f1, sl2, s1, wy, List.map_append]
    obtain ⟨qs, hq, hql, e1⟩ := step
    obtain ⟨a2, b2, q2, t, u, h5, h6, e2⟩ := pair_loop n h0 hn ws js a1 b1 qs (.dt (.int j)) (.dt (.int r)) (.inr ⟨_, rfl⟩) (.inr ⟨_, rfl⟩) (fun j hj' => hj j (List.mem_cons_of_mem _ hj')) hq (by omega)
    refine ⟨a2, b2, q2, t, u, h5, h6, ?_⟩
    rw [show iL (j :: js) = .int j :: iL js from rfl, forL, hG]
    dsimp only
    rw [e1]
    exact e2
end K00

namespace K00
open PySem PySem.Spec
open PyProof.Rows hiding St
open L2 EE
theorem sEq_nil (w : Int × Int) (ps : Wy) (b : Bool) : sEq (.nd (.lst b) ((w :: ps).map wy)) (.nd (.lst true) []) = some (.bl false) := by
  unfold sEq
  rw [if_pos ⟨wD_ok b _, rfl⟩]
  rfl
theorem sNe_nil (w : Int × Int) (ps : Wy) (b : Bool) : sNe (.nd (.lst b) ((w :: ps).map wy)) (.nd (.lst true) []) = some (.bl true) := by
  unfold sNe
  rw [if_pos ⟨wD_ok b _, rfl⟩]
  rfl
theorem ends_ok (a b : Int) (n : Nat) (ws : Wy) (h0 : 2 ≤ n) (hn : n ≤ 6) : ∃ a' b' w, ((0 ≤ w.1 ∧ w.1 < (n : Int)) ∧ 0 ≤ w.2 ∧ w.2 < (n : Int)) ∧ F__law_ends [bx a b, netD n ws] = .ok (wy w) [bx a' b', .non] := by
  obtain ⟨js, en, hjs, hjt⟩ := upAt n
  have sN : Sm (n : Int) := sm_of (by omega) (by omega)
  have tn : Int.toNat ((n : Nat) : Int) = n := Int.toNat_natCast n
  obtain ⟨a1, b1, qs, t, u, hq, hql, e1⟩ := pair_loop n (by omega) hn ws js a b [] .un .un (.inl rfl) (.inl rfl) (fun j hj => by
    obtain ⟨i, hi, rfl⟩ := List.getElem_of_mem hj
    have h2 := hjt i hi
    rw [List.getElem?_eq_getElem hi] at h2
    injection h2 with h2
    rw [h2]; omega) (fun w hw => absurd hw List.not_mem_nil) (by simp; omega)
  rw [← en] at e1
  have e1 : forL (gSet 3) b__law_ends_1 (EE.upTo 0 n) [.io (bx a b), .dt (netD n ws), .dt (.nd (.lst true) []), .un, .un, .un, .un] = .ok .nx [.io (bx a1 b1), .dt (netD n ws), .dt (.nd (.lst true) (qs.map wy)), t, u, .un, .un] := e1
  obtain ⟨fs, hf, hfl, e2⟩ := far_loop (.io (bx a1 b1)) n ws (.dt (.nd (.lst false) (qs.map wy))) t u .un qs [] (by simpa using hql)
  have hf : ∀ w ∈ fs, w ∈ qs := fun w hw => (hf w hw).elim (fun h => absurd h List.not_mem_nil) id
  have e2 : lcL (gSet 6) b__law_ends_3 b__law_ends_2 [6] (qs.map wy) [] [.io (bx a1 b1), .dt (netD n ws), .dt (.nd (.lst false) (qs.map wy)), t, u, .un, .un] = _ := e2
  have hfl2 : fs.length < 1000 := by simp at hfl; omega
  have i0 := net0 n ws
  have f1 := wyF qs
  have f2 := wyF fs
  have z1 := frzL_id _ f1
  have z2 := frzL_id _ f2
  cases qs with
  | nil =>
    refine ⟨a1, b1, (0, 1), ⟨⟨by decide, by show (0 : Int) < n; omega⟩, by decide, by show (1 : Int) < n; omega⟩, ?_⟩
    have hz : sEq (.nd (.lst false) ([] : List D)) (.nd (.lst true) []) = some (.bl true) := rfl
    rw [F__law_ends_eq, runF_def, b__law_ends_eq]
    simp only [List.map_nil] at e1 e2
    simp [rho0, fSeq, fIfS, fB, fOp2, fOp1, fC, fName, slot, Sl.dat, out2, out1, seqOf_tup, seqOf_lst, atI, ixN, D.isF, D.isFL, Kd.isF, sGt, sLt, sLe, sGe, s2I, tstB, fAsg, asg, gSet, fOwn, own, ownB, fFz, fzz, fCall, faCons, faApp, faNil, outL, rds, sInt, sMod, sDiv, sSub, sMul, gStore, isOwn, stB, wbS, fRet, fMv, mv, rtn, lent, fTup, fLst, outTup, outLst, valsOf, fIf, ftNot, ftAnd, ftOr, fAnd, fOr, fNot, fNx, fBk, fCt, fDrop, fRetN, sIsN, D.isN, sIsI, fIsI, tyD, sLen, sAbs, sMax2, sMin2, sTuple, sList, sLZ, sNeg, s1I, fCallU, callU, pairs, argsOf, lends, wb, fApp, appB, chg, mApp, fExt, extB, mExt, fPop, mPop, fPopAt, popB, mPopAt, EE.gTup, gAll, fPar, par, fAug, sIpA, sIpS, sEqI, sNeI, fiRng1, fiRng2, rng1, rng2, fiSeq, iti, itm, fiEnum, enumI, fiZip, zipI, fYes, fLC, lcEnd, fFor, forL, lcL, wipeR, backR, i0, sN, tn, e1, e2, f2, hz, sl2, wy, D.frz, Kd.frz, D.frzL, D.isFL]
  | cons q qs =>
    have hq0 := sEq_nil q qs false
    generalize hQ : q :: qs = Q at *
    have Qne : Q ≠ [] := by rw [← hQ]; exact List.cons_ne_nil _ _
    cases fs with
    | nil =>
      obtain ⟨a2, b2, w1, m1, p1⟩ := pick_w a1 b1 Q Qne hql
      obtain ⟨a3, b3, w2, m2, p2⟩ := pick_w a2 b2 Q Qne hql
      obtain ⟨a4, b4, w3, m3, p3⟩ := pick_w a3 b3 [w1, w2] (List.cons_ne_nil _ _) (by simp)
      have hN : sNe (.nd (.lst true) ([] : List D)) (.nd (.lst true) []) = some (.bl false) := rfl
      have p3 : F__law_pick [bx a3 b3, .nd (.lst false) [wy w1, wy w2]] = _ := p3
      have g1 : (wy w1).isF = true := rfl
      have g2 : (wy w2).isF = true := rfl
      have y1 := frz_id _ g1
      have y2 := frz_id _ g2
      refine ⟨a4, b4, w3, ?_, ?_⟩
      · simp only [List.mem_cons, List.not_mem_nil, or_false] at m3
        rcases m3 with rfl | rfl
        · exact hq _ m1
        · exact hq _ m2
      · rw [F__law_ends_eq, runF_def, b__law_ends_eq]
        simp only [List.map_nil] at e2
        simp [rho0, fSeq, fIfS, fB, fOp2, fOp1, fC, fName, slot, Sl.dat, out2, out1, seqOf_tup, seqOf_lst, atI, ixN, D.isF, D.isFL, Kd.isF, sGt, sLt, sLe, sGe, s2I, tstB, fAsg, asg, gSet, fOwn, own, ownB, fFz, fzz, fCall, faCons, faApp, faNil, outL, rds, sInt, sMod, sDiv, sSub, sMul, gStore, isOwn, stB, wbS, fRet, fMv, mv, rtn, lent, fTup, fLst, outTup, outLst, valsOf, fIf, ftNot, ftAnd, ftOr, fAnd, fOr, fNot, fNx, fBk, fCt, fDrop, fRetN, sIsN, D.isN, sIsI, fIsI, tyD, sLen, sAbs, sMax2, sMin2, sTuple, sList, sLZ, sNeg, s1I, fCallU, callU, pairs, argsOf, lends, wb, fApp, appB, chg, mApp, fExt, extB, mExt, fPop, mPop, fPopAt, popB, mPopAt, EE.gTup, gAll, fPar, par, fAug, sIpA, sIpS, sEqI, sNeI, fiRng1, fiRng2, rng1, rng2, fiSeq, iti, itm, fiEnum, enumI, fiZip, zipI, fYes, fLC, lcEnd, fFor, forL, lcL, wipeR, backR, i0, sN, tn, e1, e2, f1, z1, hq0, hN, p1, p2, p3, g1, g2, y1, y2, sl2, sl1, D.frz, Kd.frz, D.frzL, D.isFL]
    | cons f fs =>
      have hN := sNe_nil f fs true
      generalize hG : f :: fs = G at *
      have Gne : G ≠ [] := by rw [← hG]; exact List.cons_ne_nil _ _
      obtain ⟨a2, b2, w1, m1, p1⟩ := pick_w a1 b1 G Gne hfl2
      obtain ⟨a3, b3, w2, m2, p2⟩ := pick_w a2 b2 Q Qne hql
      obtain ⟨a4, b4, w3, m3, p3⟩ := pick_w a3 b3 [w1, w2] (List.cons_ne_nil _ _) (by simp)
      have p3 : F__law_pick [bx a3 b3, .nd (.lst false) [wy w1, wy w2]] = _ := p3
      have g1 : (wy w1).isF = true := rfl
      have g2 : (wy w2).isF = true := rfl
      have y1 := frz_id _ g1
      have y2 := frz_id _ g2
      refine ⟨a4, b4, w3, ?_, ?_⟩
      · simp only [List.mem_cons, List.not_mem_nil, or_false] at m3
        rcases m3 with rfl | rfl
        · exact hq _ (hf _ m1)
        · exact hq _ m2
      · rw [F__law_ends_eq, runF_def, b__law_ends_eq]
        simp [rho0, fSeq, fIfS, fB, fOp2, fOp1, fC, fName, slot, Sl.dat, out2, out1, seqOf_tup, seqOf_lst, atI, ixN, D.isF, D.isFL, Kd.isF, sGt, sLt, sLe, sGe, s2I, tstB, fAsg, asg, gSet, fOwn, own, ownB, fFz, fzz, fCall, faCons, faApp, faNil, outL, rds, sInt, sMod, sDiv, sSub, sMul, gStore, isOwn, stB, wbS, fRet, fMv, mv, rtn, lent, fTup, fLst, outTup, outLst, valsOf, fIf, ftNot, ftAnd, ftOr, fAnd, fOr, fNot, fNx, fBk, fCt, fDrop, fRetN, sIsN, D.isN, sIsI, fIsI, tyD, sLen, sAbs, sMax2, sMin2, sTuple, sList, sLZ, sNeg, s1I, fCallU, callU, pairs, argsOf, lends, wb, fApp, appB, chg, mApp, fExt, extB, mExt, fPop, mPop, fPopAt, popB, mPopAt, EE.gTup, gAll, fPar, par, fAug, sIpA, sIpS, sEqI, sNeI, fiRng1, fiRng2, rng1, rng2, fiSeq, iti, itm, fiEnum, enumI, fiZip, zipI, fYes, fLC, lcEnd, fFor, forL, lcL, wipeR, backR, i0, sN, tn, e1, e2, f1, f2, z1, z2, hq0, hN, p1, p2, p3, g1, g2, y1, y2, sl2, sl1, D.frz, Kd.frz, D.frzL, D.isFL]
end K00

namespace K00
open PySem PySem.Spec
open PyProof.Rows hiding St
open L2 EE
theorem tr_up {ws : Wy} {e : Int} : ∀ {k : Nat} {p q : Pt}, q ∈ tr ws e k p → q.length ≤ p.length + k
  | 0, p, q, h => by
    unfold tr at h
    split at h
    · rw [List.mem_singleton.mp h]; exact Nat.le_refl _
    · cases h
  | k + 1, p, q, h => by
    rw [tr] at h
    split at h
    · rw [List.mem_singleton.mp h]; omega
    · obtain ⟨c, hc, hq⟩ := List.mem_flatMap.mp h
      have := tr_up hq
      have := nxt_len hc
      omega
theorem szL_em (l : List Pt) (m : Nat) (h : ∀ p ∈ l, p.length ≤ m) : D.szL (l.map em) ≤ l.length * (m + 1) := by
  have hi : ∀ p : Pt, D.szL (iL p) = p.length := fun p => by
    induction p with
    | nil => rfl
    | cons x p ih => show D.sz (.int x) + D.szL (iL p) = _; rw [ih, List.length_cons]; show 1 + _ = _; omega
  induction l with
  | nil => exact Nat.zero_le _
  | cons p l ih =>
    have := ih fun q hq => h q (List.mem_cons_of_mem _ hq)
    have hp := h p List.mem_cons_self
    show (1 + D.szL (iL p)) + D.szL (l.map em) ≤ _
    rw [hi, List.length_cons, Nat.succ_mul]
    omega
theorem tp_em (l : List Pt) : D.tp 60 (.nd .tup (l.map em)) = true := by
  simp only [D.tp, Bool.true_and, List.all_eq_true]
  intro x hx
  obtain ⟨p, _, rfl⟩ := List.mem_map.mp hx
  simp [D.tp]
theorem small {n : Nat} {ws : Wy} (h : NetOk n ws) (hn : n ≤ 6) (s e : Int) (m : Nat) (hm : m ≤ 6) : cnt ws e m [s] < 1000000 ∧ (tr ws e m [s]).length ≤ 46656 := by
  have c := cnt_le ws e (fun x => Nat.le_trans (h.sp x) hn) m [s]
  rw [Nat.div_one, Nat.sub_zero] at c
  have c1 : 7 ^ (m + 1) ≤ 7 ^ 7 := Nat.pow_le_pow_right (by decide) (by omega)
  have c2 : 6 ^ m ≤ 6 ^ 6 := Nat.pow_le_pow_right (by decide) hm
  have c3 : (7 : Nat) ^ 7 = 823543 := by decide
  have c4 : (6 : Nat) ^ 6 = 46656 := by decide
  omega
theorem like_tr {n : Nat} {ws : Wy} (h : NetOk n ws) (hn : n ≤ 6) (s e : Int) (m : Nat) (hm : m ≤ 6) :
    F__law_like [.nd .tup ((srt (tr ws e m [s])).map em), .nd .tup ((srt (tr ws e m [s])).map em)] = .ok (.bl true) [.non, .non] := by
  refine like_ok _ (tp_em _) ?_
  have hl : (srt (tr ws e m [s])).length = (tr ws e m [s]).length := List.length_mergeSort _
  have hp : (srt (tr ws e m [s])).Perm (tr ws e m [s]) := List.mergeSort_perm _ _
  have := szL_em (srt (tr ws e m [s])) 7 fun p hp' => by
    have := tr_up (hp.subset hp')
    rw [List.length_singleton] at this
    omega
  have c := (small h hn s e m hm).2
  show 1 + D.szL _ < _
  rw [hl] at this
  omega
theorem law1_step (A B C E : Sl) {n : Nat} {ws : Wy} (h : NetOk n ws) (h0 : 2 ≤ n) (hn : n ≤ 6) (s e : Int) (hs : 0 ≤ s ∧ s < n) (m : Nat) (hm : m ≤ n) :
    b_law_1 [A, B, C, E, .dt (netD n ws), .dt (.int s), .dt (.int e), .dt (.int m)] = .ok .nx [A, B, C, E, .dt (netD n ws), .dt (.int s), .dt (.int e), .dt (.int m)] := by
  have e1 := short_ok n s e ws m (by omega) h.len (small h hn s e m (by omega)).1
  have e2 := lshort_ok n s e ws m (by omega) hm h.len (fun w hw => (h.rng w hw).2) hs (small h hn s e n hn).1 (by
    obtain ⟨k, hk⟩ : ∃ k, n = k + 1 := ⟨n - 1, by omega⟩
    rw [hk, trB_eq]
    have := (small h hn s e k (by omega)).2
    omega)
  have e3 := like_tr h hn s e m (by omega)
  have f1 := emF (srt (tr ws e m [s]))
  have f0 := netF n ws
  have z0 := frz_id _ f0
  have z1 := frzL_id _ f1
  rw [b_law_1_eq]
  generalize netD n ws = N at *
  simp [rho0, fSeq, fIfS, fB, fOp2, fOp1, fC, fName, slot, Sl.dat, out2, out1, sIx, seqOf_tup, seqOf_lst, atI, ixN, D.isF, D.isFL, Kd.isF, sGt, sLt, sLe, sGe, s2I, tstB, fAsg, asg, gSet, fOwn, own, ownB, fFz, fzz, fCall, faCons, faApp, faNil, outL, rds, sInt, sMod, sDiv, sSub, sAdd, sMul, gStore, isOwn, stB, wbS, fRet, fMv, mv, rtn, lent, fTup, fLst, outTup, outLst, valsOf, fIf, ftNot, ftAnd, ftOr, fAnd, fOr, fNot, fNx, fBk, fCt, fDrop, fRetN, sIsN, D.isN, sIsI, fIsI, tyD, sLen, sAbs, sMax2, sMin2, sTuple, sList, sLZ, sNeg, s1I, fCallU, callU, pairs, argsOf, lends, wb, fApp, appB, chg, mApp, fExt, extB, mExt, fPop, mPop, fPopAt, popB, mPopAt, EE.gTup, gAll, fPar, par, fAug, sIpA, sIpS, sEqI, sNeI, fiRng1, fiRng2, rng1, rng2, fiSeq, iti, itm, fiEnum, enumI, fiZip, zipI, fYes, fLC, lcEnd, fFor, forL, lcL, wipeR, backR, f0, z0, f1, z1, e1, e2, e3, D.frz, Kd.frz]
theorem law1_loop (A B C E : Sl) {n : Nat} {ws : Wy} (h : NetOk n ws) (h0 : 2 ≤ n) (hn : n ≤ 6) (s e : Int) (hs : 0 ≤ s ∧ s < n) : ∀ (ms : List Nat) (s7 : Sl), (s7 = .un ∨ ∃ x, s7 = .dt x) → (∀ m ∈ ms, m ≤ n) →
    ∃ t, (t = .un ∨ ∃ x, t = .dt x) ∧ forL (gSet 7) b_law_1 (ms.map fun m => D.int (m : Nat)) [A, B, C, E, .dt (netD n ws), .dt (.int s), .dt (.int e), s7] = .ok .nx [A, B, C, E, .dt (netD n ws), .dt (.int s), .dt (.int e), t]
  | [], s7, h7, _ => ⟨s7, h7, rfl⟩
  | m :: ms, s7, h7, hm => by
    obtain ⟨t, ht, e1⟩ := law1_loop A B C E h h0 hn s e hs ms (.dt (.int m)) (.inr ⟨_, rfl⟩) fun x hx => hm x (List.mem_cons_of_mem _ hx)
    refine ⟨t, ht, ?_⟩
    have hG : gSet 7 (.int m) [A, B, C, E, .dt (netD n ws), .dt (.int s), .dt (.int e), s7] = .ok () [A, B, C, E, .dt (netD n ws), .dt (.int s), .dt (.int e), .dt (.int m)] := by
      rcases h7 with rfl | ⟨x, rfl⟩ <;> rfl
    rw [List.map_cons, forL, hG]
    dsimp only
    rw [law1_step A B C E h h0 hn s e hs m (hm m List.mem_cons_self)]
    exact e1
theorem upE (N : Nat) : EE.upTo 0 N = (List.range N).map fun k => D.int (k : Nat) := by
  unfold EE.upTo
  apply List.map_congr_left
  intro k _
  rw [Int.zero_add]
def gone (s : Sl) : Prop := s = .un ∨ ∃ x, s = .dt x
theorem law2_step (ns : List Int) (L : D) (k : Nat) (s3 s4 s5 s6 s7 : Sl) (h3 : gone s3) (h4 : s4 = .un ∨ ∃ n w, s4 = .dt (netD n w)) (h5 : s5 = .un ∨ ∃ n, s5 = .dt (.int n)) (h6 : s6 = .un ∨ ∃ n, s6 = .dt (.int n)) (h7 : gone s7) :
    ∃ a b n w s e t, gone t ∧ b_law_2 [.dt (scr ns), .dt L, .dt (.int k), s3, s4, s5, s6, s7] = .ok .nx [.dt (scr ns), .dt L, .dt (.int k), .dt (bx a b), .dt (netD n w), .dt (.int s), .dt (.int e), t] := by
  obtain ⟨a, b, e1⟩ := box_ok ns k
  obtain ⟨a1, b1, r, r0, r1, e2⟩ := take_ok a b 5 (by decide) (by decide)
  obtain ⟨a2, b2, q, q0, q1, e3⟩ := take_ok a1 b1 2 (by decide) (by decide)
  obtain ⟨n, hn⟩ : ∃ n : Nat, 2 + r = (n : Int) := ⟨(2 + r).toNat, by omega⟩
  obtain ⟨a3, b3, ws, ok, e4⟩ := net_ok a2 b2 n (q == 0) (by omega) (by omega)
  obtain ⟨a4, b4, w, ⟨w1, w2⟩, e5⟩ := ends_ok a3 b3 n ws (by omega) (by omega)
  have e5 : F__law_ends [bx a3 b3, netD n ws] = .ok (.nd .tup [.int w.1, .int w.2]) [bx a4 b4, .non] := e5
  obtain ⟨t, ht, e6⟩ := law1_loop (.dt (scr ns)) (.dt L) (.dt (.int k)) (.dt (bx a4 b4)) ok (by omega) (by omega) w.1 w.2 w1 (List.range (n + 1)) s7 h7 (fun m hm => by rw [List.mem_range] at hm; omega)
  rw [← upE] at e6
  refine ⟨a4, b4, n, ws, w.1, w.2, t, ht, ?_⟩
  have sF : (scr ns).isF = true := by
    show (true && D.isFL (ns.map D.int)) = true
    rw [Bool.true_and]; exact iL_F ns
  have zF := frz_id _ sF
  have f0 := netF n ws
  have z0 := frz_id _ f0
  have hA : sAdd (.int 2) (.int r) = some (.int n) := by rw [← hn]; rfl
  have hE : sEq (.int q) (.int 0) = some (.bl (q == 0)) := rfl
  have i0 := net0 n ws
  have hB : sAdd (.int (n : Int)) (.int 1) = some (.int (n + 1)) := rfl
  have sN : Sm ((n : Int) + 1) := sm_of (by omega) (by omega)
  have tn : Int.toNat ((n : Int) + 1) = n + 1 := by omega
  have hb1 : (bx a b).isF = false := rfl
  rw [b_law_2_eq]
  rcases h3 with rfl | ⟨x3, rfl⟩ <;> rcases h4 with rfl | ⟨x4, y4, rfl⟩ <;> rcases h5 with rfl | ⟨x5, rfl⟩ <;> rcases h6 with rfl | ⟨x6, rfl⟩
  all_goals
    simp [rho0, fSeq, fIfS, fB, fOp2, fOp1, fC, fName, slot, Sl.dat, out2, out1, seqOf_tup, seqOf_lst, atI, ixN, D.isF, D.isFL, Kd.isF, sGt, sLt, sLe, sGe, s2I, tstB, fAsg, asg, gSet, fOwn, own, ownB, fFz, fzz, fCall, faCons, faApp, faNil, outL, rds, sInt, sMod, sDiv, sSub, sMul, gStore, isOwn, stB, wbS, fRet, fMv, mv, rtn, lent, fTup, fLst, outTup, outLst, valsOf, fIf, ftNot, ftAnd, ftOr, fAnd, fOr, fNot, fNx, fBk, fCt, fDrop, fRetN, sIsN, D.isN, sIsI, fIsI, tyD, sLen, sAbs, sMax2, sMin2, sTuple, sList, sLZ, sNeg, s1I, fCallU, callU, pairs, argsOf, lends, wb, fApp, appB, chg, mApp, fExt, extB, mExt, fPop, mPop, fPopAt, popB, mPopAt, EE.gTup, gAll, fPar, par, fAug, sIpA, sIpS, sEqI, sNeI, fiRng1, fiRng2, rng1, rng2, fiSeq, iti, itm, fiEnum, enumI, fiZip, zipI, fYes, fLC, lcEnd, fFor, forL, lcL, wipeR, backR, sF, zF, e1, e2, e3, e4, e5, hA, hE, f0, z0, i0, hB, sN, tn, e6]
end K00

namespace K00
open PySem PySem.Spec
open PyProof.Rows hiding St
open L2 EE
theorem law2_loop (ns : List Int) (L : D) : ∀ (ks : List Nat) (s2 s3 s4 s5 s6 s7 : Sl), gone s2 → gone s3 → (s4 = .un ∨ ∃ n w, s4 = .dt (netD n w)) → (s5 = .un ∨ ∃ n, s5 = .dt (.int n)) → (s6 = .un ∨ ∃ n, s6 = .dt (.int n)) → gone s7 →
    ∃ t2 t3 t4 t5 t6 t7, forL (gSet 2) b_law_2 (ks.map fun k => D.int (k : Nat)) [.dt (scr ns), .dt L, s2, s3, s4, s5, s6, s7] = .ok .nx [.dt (scr ns), .dt L, t2, t3, t4, t5, t6, t7]
  | [], s2, s3, s4, s5, s6, s7, _, _, _, _, _, _ => ⟨_, _, _, _, _, _, rfl⟩
  | k :: ks, s2, s3, s4, s5, s6, s7, h2, h3, h4, h5, h6, h7 => by
    obtain ⟨a, b, n, w, s, e, t, ht, e1⟩ := law2_step ns L k s3 s4 s5 s6 s7 h3 h4 h5 h6 h7
    obtain ⟨t2, t3, t4, t5, t6, t7, e2⟩ := law2_loop ns L ks (.dt (.int k)) (.dt (bx a b)) (.dt (netD n w)) (.dt (.int s)) (.dt (.int e)) t (.inr ⟨_, rfl⟩) (.inr ⟨_, rfl⟩) (.inr ⟨_, _, rfl⟩) (.inr ⟨_, rfl⟩) (.inr ⟨_, rfl⟩) ht
    refine ⟨t2, t3, t4, t5, t6, t7, ?_⟩
    have hG : gSet 2 (.int k) [.dt (scr ns), .dt L, s2, s3, s4, s5, s6, s7] = .ok () [.dt (scr ns), .dt L, .dt (.int k), s3, s4, s5, s6, s7] := by
      rcases h2 with rfl | ⟨x, rfl⟩ <;> rfl
    rw [List.map_cons, forL, hG]
    dsimp only
    rw [e1]
    exact e2
def lineW : Wy := [(0, 1), (1, 2), (2, 3)]
theorem math (ns : List Int) (h : ns.length ≤ 63) : ∃ os, os.length = 1 ∧ F_law [scr ns] = .ok (.bl true) os := by
  have e1 := short_ok 4 0 3 lineW 3 (by decide) (by decide) (by decide)
  have e2 := short_ok 4 0 3 lineW 2 (by decide) (by decide) (by decide)
  have q1 : tr lineW 3 3 [0] = [[0, 1, 2, 3]] := by decide
  have q2 : tr lineW 3 2 [0] = [] := by decide
  have q3 : srt [[0, 1, 2, 3]] = [[0, 1, 2, 3]] := by unfold srt; rw [List.mergeSort_singleton]
  have q4 : srt [] = [] := by unfold srt; rw [List.mergeSort_nil]
  rw [q1, q3] at e1
  rw [q2, q4] at e2
  have e3 := like_ok (.nd .tup [.nd .tup [.int 0, .int 1, .int 2, .int 3]]) (by decide) (by decide)
  have e4 := like_ok (.nd .tup []) (by decide) (by decide)
  have e1 : F_short_trails [.nd .tup [.int 4, .nd .tup [.nd .tup [.int 0, .int 1], .nd .tup [.int 1, .int 2], .nd .tup [.int 2, .int 3]]], .int 0, .int 3, .int 3] = .ok (.nd .tup [.nd .tup [.int 0, .int 1, .int 2, .int 3]]) [.non, .non, .non, .non] := e1
  have e2 : F_short_trails [.nd .tup [.int 4, .nd .tup [.nd .tup [.int 0, .int 1], .nd .tup [.int 1, .int 2], .nd .tup [.int 2, .int 3]]], .int 0, .int 3, .int 2] = .ok (.nd .tup []) [.non, .non, .non, .non] := e2
  have lp : ∀ N : Nat, N ≤ 8 → Sm (N : Int) ∧ ∃ s1 s2 s3 s4 s5 s6, forL (gSet 2) b_law_2 (EE.upTo 0 N) [.dt (scr ns), .dt (.nd .tup [.int 4, .nd .tup [.nd .tup [.int 0, .int 1], .nd .tup [.int 1, .int 2], .nd .tup [.int 2, .int 3]]]), .un, .un, .un, .un, .un, .un] = .ok .nx [.dt (scr ns), .dt (.nd .tup [.int 4, .nd .tup [.nd .tup [.int 0, .int 1], .nd .tup [.int 1, .int 2], .nd .tup [.int 2, .int 3]]]), s1, s2, s3, s4, s5, s6] := fun N h1 => by
    rw [upE]
    exact ⟨sm_of (by omega) (by omega), law2_loop ns _ (List.range N) .un .un .un .un .un .un (.inl rfl) (.inl rfl) (.inl rfl) (.inl rfl) (.inl rfl) (.inl rfl)⟩
  have sF : (scr ns).isF = true := by
    show (true && D.isFL (ns.map D.int)) = true
    rw [Bool.true_and]; exact iL_F ns
  have q6 : 6 ≤ sizeLine := by decide
  have e0 : F_law [scr ns] = F_law [scr ns] := rfl
  refine ⟨[.non], rfl, ?_⟩
  rw [F_law_eq, runF_def, b_law_eq]
  by_cases hA : (8 : Int) < (ns.length : Int)
  · obtain ⟨sN, s1, s2, s3, s4, s5, s6, e5⟩ := lp 8 (by decide)
    unfold scr at e5 sF ⊢
    have hA' : 8 < ns.length := by omega
    have sN : Sm 8 := sN
    simp [rho0, fSeq, fIfS, fB, fOp2, fOp1, fC, fName, slot, Sl.dat, out2, out1, sIx, seqOf_tup, seqOf_lst, atI, ixN, D.isF, D.isFL, Kd.isF, sGt, sLt, sLe, sGe, s2I, tstB, fAsg, asg, gSet, fOwn, own, ownB, fFz, fzz, fCall, faCons, faApp, faNil, outL, rds, sInt, sMod, sDiv, sSub, sAdd, sMul, gStore, isOwn, stB, wbS, fRet, fMv, mv, rtn, lent, fTup, fLst, outTup, outLst, valsOf, fIf, ftNot, ftAnd, ftOr, fAnd, fOr, fNot, fNx, fBk, fCt, fDrop, fRetN, sIsN, D.isN, sIsI, fIsI, tyD, sLen, sAbs, sMax2, sMin2, sTuple, sList, sLZ, sNeg, s1I, fCallU, callU, pairs, argsOf, lends, wb, fApp, appB, chg, mApp, fExt, extB, mExt, fPop, mPop, fPopAt, popB, mPopAt, EE.gTup, gAll, fPar, par, fAug, sIpA, sIpS, sEqI, sNeI, fiRng1, fiRng2, rng1, rng2, fiSeq, iti, itm, fiEnum, enumI, fiZip, zipI, fYes, fLC, lcEnd, fFor, forL, lcL, wipeR, backR, hA, hA', sN, e5, sF, e1, e2, e3, e4, sl0, sl1, sl2, sl3, sl4, q6, D.frz, D.frzL, Kd.frz, D.isFL]
  · have hA' : ¬ 8 < ns.length := by omega
    by_cases hB : (3 : Int) < (ns.length : Int)
    · obtain ⟨sN, s1, s2, s3, s4, s5, s6, e5⟩ := lp ns.length (by omega)
      unfold scr at e5 sF ⊢
      have hB' : 3 < ns.length := by omega
      simp [rho0, fSeq, fIfS, fB, fOp2, fOp1, fC, fName, slot, Sl.dat, out2, out1, sIx, seqOf_tup, seqOf_lst, atI, ixN, D.isF, D.isFL, Kd.isF, sGt, sLt, sLe, sGe, s2I, tstB, fAsg, asg, gSet, fOwn, own, ownB, fFz, fzz, fCall, faCons, faApp, faNil, outL, rds, sInt, sMod, sDiv, sSub, sAdd, sMul, gStore, isOwn, stB, wbS, fRet, fMv, mv, rtn, lent, fTup, fLst, outTup, outLst, valsOf, fIf, ftNot, ftAnd, ftOr, fAnd, fOr, fNot, fNx, fBk, fCt, fDrop, fRetN, sIsN, D.isN, sIsI, fIsI, tyD, sLen, sAbs, sMax2, sMin2, sTuple, sList, sLZ, sNeg, s1I, fCallU, callU, pairs, argsOf, lends, wb, fApp, appB, chg, mApp, fExt, extB, mExt, fPop, mPop, fPopAt, popB, mPopAt, EE.gTup, gAll, fPar, par, fAug, sIpA, sIpS, sEqI, sNeI, fiRng1, fiRng2, rng1, rng2, fiSeq, iti, itm, fiEnum, enumI, fiZip, zipI, fYes, fLC, lcEnd, fFor, forL, lcL, wipeR, backR, hA, hA', hB, hB', sN, e5, sF, e1, e2, e3, e4, sl0, sl1, sl2, sl3, sl4, q6, D.frz, D.frzL, Kd.frz, D.isFL]
    · obtain ⟨sN, s1, s2, s3, s4, s5, s6, e5⟩ := lp 3 (by decide)
      unfold scr at e5 sF ⊢
      have hB' : ¬ 3 < ns.length := by omega
      have sN : Sm 3 := sN
      simp [rho0, fSeq, fIfS, fB, fOp2, fOp1, fC, fName, slot, Sl.dat, out2, out1, sIx, seqOf_tup, seqOf_lst, atI, ixN, D.isF, D.isFL, Kd.isF, sGt, sLt, sLe, sGe, s2I, tstB, fAsg, asg, gSet, fOwn, own, ownB, fFz, fzz, fCall, faCons, faApp, faNil, outL, rds, sInt, sMod, sDiv, sSub, sAdd, sMul, gStore, isOwn, stB, wbS, fRet, fMv, mv, rtn, lent, fTup, fLst, outTup, outLst, valsOf, fIf, ftNot, ftAnd, ftOr, fAnd, fOr, fNot, fNx, fBk, fCt, fDrop, fRetN, sIsN, D.isN, sIsI, fIsI, tyD, sLen, sAbs, sMax2, sMin2, sTuple, sList, sLZ, sNeg, s1I, fCallU, callU, pairs, argsOf, lends, wb, fApp, appB, chg, mApp, fExt, extB, mExt, fPop, mPop, fPopAt, popB, mPopAt, EE.gTup, gAll, fPar, par, fAug, sIpA, sIpS, sEqI, sNeI, fiRng1, fiRng2, rng1, rng2, fiSeq, iti, itm, fiEnum, enumI, fiZip, zipI, fYes, fLC, lcEnd, fFor, forL, lcL, wipeR, backR, hA, hA', hB, hB', sN, e5, sF, e1, e2, e3, e4, sl0, sl1, sl2, sl3, sl4, q6, D.frz, D.frzL, Kd.frz, D.isFL]
end K00

namespace K00
open PySem PySem.Spec
open PyProof.Rows hiding St
open L2 EE

theorem all_mk {l : PySem.W.OpenLaw} {w : World} {K : PySem.W.Frag} {h : Heap} {mg : Str → Option Value} {fa f0 f1 f2 f3 f4 f5 f6 f7 f8 f9 f10 : Addr} (X : K.In h) (G : h.Ns mainGlobals mg) (hfa : mg "law" = some (.ref fa))
  {od0 an0 od1 an1 od2 an2 od3 an3 od4 an4 od5 an5 od6 an6 od7 an7 od8 an8 od9 an9 od10 an10 : Option Addr} {sl0 sl1 sl2 sl3 sl4 sl5 sl6 sl7 sl8 sl9 sl10 : Array (Option Value)} {oc0 kV0 dc0 pm0 cd0 ct0 oc1 kV1 dc1 pm1 cd1 ct1 oc2 kV2 dc2 pm2 cd2 ct2 oc3 kV3 dc3 pm3 cd3 ct3 oc4 kV4 dc4 pm4 cd4 ct4 oc5 kV5 dc5 pm5 cd5 ct5 oc6 kV6 dc6 pm6 cd6 ct6 oc7 kV7 dc7 pm7 cd7 ct7 oc8 kV8 dc8 pm8 cd8 ct8 oc9 kV9 dc9 pm9 cd9 ct9 oc10 kV10 dc10 pm10 cd10 ct10 : Value}
  (a0 : PySem.W.nsIn K mainGlobals "spoken_to" = some (some (.ref f0))) (l0 : K.lookup f0 = some ⟨oc0, od0, .func (PySem.W.fnOf "spoken_to" "spoken_to" (defArgs s_spoken_to) (defBody s_spoken_to) (defScope s_spoken_to) .none kV0 dc0 pm0 an0 cd0 ct0), sl0⟩) (c0 : PySem.W.codeIn K cd0 "spoken_to" = true) (k0 : PySem.W.keepIn K (.ref f0) = true)
  (a1 : PySem.W.nsIn K mainGlobals "short_trails" = some (some (.ref f1))) (l1 : K.lookup f1 = some ⟨oc1, od1, .func (PySem.W.fnOf "short_trails" "short_trails" (defArgs s_short_trails) (defBody s_short_trails) (defScope s_short_trails) .none kV1 dc1 pm1 an1 cd1 ct1), sl1⟩) (c1 : PySem.W.codeIn K cd1 "short_trails" = true) (k1 : PySem.W.keepIn K (.ref f1) = true)
  (a2 : PySem.W.nsIn K mainGlobals "_law_take" = some (some (.ref f2))) (l2 : K.lookup f2 = some ⟨oc2, od2, .func (PySem.W.fnOf "_law_take" "_law_take" (defArgs s__law_take) (defBody s__law_take) (defScope s__law_take) .none kV2 dc2 pm2 an2 cd2 ct2), sl2⟩) (c2 : PySem.W.codeIn K cd2 "_law_take" = true) (k2 : PySem.W.keepIn K (.ref f2) = true)
  (a3 : PySem.W.nsIn K mainGlobals "_law_pick" = some (some (.ref f3))) (l3 : K.lookup f3 = some ⟨oc3, od3, .func (PySem.W.fnOf "_law_pick" "_law_pick" (defArgs s__law_pick) (defBody s__law_pick) (defScope s__law_pick) .none kV3 dc3 pm3 an3 cd3 ct3), sl3⟩) (c3 : PySem.W.codeIn K cd3 "_law_pick" = true) (k3 : PySem.W.keepIn K (.ref f3) = true)
  (a4 : PySem.W.nsIn K mainGlobals "_law_like" = some (some (.ref f4))) (l4 : K.lookup f4 = some ⟨oc4, od4, .func (PySem.W.fnOf "_law_like" "_law_like" (defArgs s__law_like) (defBody s__law_like) (defScope s__law_like) .none kV4 dc4 pm4 an4 cd4 ct4), sl4⟩) (c4 : PySem.W.codeIn K cd4 "_law_like" = true) (k4 : PySem.W.keepIn K (.ref f4) = true)
  (a5 : PySem.W.nsIn K mainGlobals "_law_net" = some (some (.ref f5))) (l5 : K.lookup f5 = some ⟨oc5, od5, .func (PySem.W.fnOf "_law_net" "_law_net" (defArgs s__law_net) (defBody s__law_net) (defScope s__law_net) .none kV5 dc5 pm5 an5 cd5 ct5), sl5⟩) (c5 : PySem.W.codeIn K cd5 "_law_net" = true) (k5 : PySem.W.keepIn K (.ref f5) = true)
  (a6 : PySem.W.nsIn K mainGlobals "_law_trails" = some (some (.ref f6))) (l6 : K.lookup f6 = some ⟨oc6, od6, .func (PySem.W.fnOf "_law_trails" "_law_trails" (defArgs s__law_trails) (defBody s__law_trails) (defScope s__law_trails) .none kV6 dc6 pm6 an6 cd6 ct6), sl6⟩) (c6 : PySem.W.codeIn K cd6 "_law_trails" = true) (k6 : PySem.W.keepIn K (.ref f6) = true)
  (a7 : PySem.W.nsIn K mainGlobals "_law_ends" = some (some (.ref f7))) (l7 : K.lookup f7 = some ⟨oc7, od7, .func (PySem.W.fnOf "_law_ends" "_law_ends" (defArgs s__law_ends) (defBody s__law_ends) (defScope s__law_ends) .none kV7 dc7 pm7 an7 cd7 ct7), sl7⟩) (c7 : PySem.W.codeIn K cd7 "_law_ends" = true) (k7 : PySem.W.keepIn K (.ref f7) = true)
  (a8 : PySem.W.nsIn K mainGlobals "_law_short" = some (some (.ref f8))) (l8 : K.lookup f8 = some ⟨oc8, od8, .func (PySem.W.fnOf "_law_short" "_law_short" (defArgs s__law_short) (defBody s__law_short) (defScope s__law_short) .none kV8 dc8 pm8 an8 cd8 ct8), sl8⟩) (c8 : PySem.W.codeIn K cd8 "_law_short" = true) (k8 : PySem.W.keepIn K (.ref f8) = true)
  (a9 : PySem.W.nsIn K mainGlobals "_law_box" = some (some (.ref f9))) (l9 : K.lookup f9 = some ⟨oc9, od9, .func (PySem.W.fnOf "_law_box" "_law_box" (defArgs s__law_box) (defBody s__law_box) (defScope s__law_box) .none kV9 dc9 pm9 an9 cd9 ct9), sl9⟩) (c9 : PySem.W.codeIn K cd9 "_law_box" = true) (k9 : PySem.W.keepIn K (.ref f9) = true)
  (a10 : PySem.W.nsIn K mainGlobals "law" = some (some (.ref f10))) (l10 : K.lookup f10 = some ⟨oc10, od10, .func (PySem.W.fnOf "law" "law" (defArgs s_law) (defBody s_law) (defScope s_law) .none kV10 dc10 pm10 an10 cd10 ct10), sl10⟩) (c10 : PySem.W.codeIn K cd10 "law" = true) (k10 : PySem.W.keepIn K (.ref f10) = true)
  (z0 : PySem.W.nsIn K mainGlobals "abs" = some none)
  (z1 : PySem.W.nsIn K mainGlobals "bool" = some none)
  (z2 : PySem.W.nsIn K mainGlobals "int" = some none)
  (z3 : PySem.W.nsIn K mainGlobals "isinstance" = some none)
  (z4 : PySem.W.nsIn K mainGlobals "len" = some none)
  (z5 : PySem.W.nsIn K mainGlobals "list" = some none)
  (z6 : PySem.W.nsIn K mainGlobals "max" = some none)
  (z7 : PySem.W.nsIn K mainGlobals "min" = some none)
  (z8 : PySem.W.nsIn K mainGlobals "range" = some none)
  (z9 : PySem.W.nsIn K mainGlobals "sorted" = some none)
  (z10 : PySem.W.nsIn K mainGlobals "str" = some none)
  (z11 : PySem.W.nsIn K mainGlobals "tuple" = some none)
  (z12 : PySem.W.nsIn K mainGlobals "zip" = some none)
  : ∃ fd : FuncData, (∀ (s : Shared) (v : Value), BindsTo s fd ⟨[v], []⟩ [("script", v)]) ∧ ∀ base : Heap, K.In base → base.Ns mainGlobals mg → FnOk l.prog w K mg base (L2.CX l.prog w) 4 fa fd ["script"] (spL K) := by
  have e := hfa.symm.trans (PySem.W.mg_of X G a10)
  cases e
  have F0 := fun_mk (st := s_spoken_to) l0 c0 k0
  have F1 := fun_mk (st := s_short_trails) l1 c1 k1
  have F2 := fun_mk (st := s__law_take) l2 c2 k2
  have F3 := fun_mk (st := s__law_pick) l3 c3 k3
  have F4 := fun_mk (st := s__law_like) l4 c4 k4
  have F5 := fun_mk (st := s__law_net) l5 c5 k5
  have F6 := fun_mk (st := s__law_trails) l6 c6 k6
  have F7 := fun_mk (st := s__law_ends) l7 c7 k7
  have F8 := fun_mk (st := s__law_short) l8 c8 k8
  have F9 := fun_mk (st := s__law_box) l9 c9 k9
  have F10 := fun_mk (st := s_law) l10 c10 k10
  have Z : Zs mg := ⟨PySem.W.mg_none_of X G z0, PySem.W.mg_none_of X G z1, PySem.W.mg_none_of X G z2, PySem.W.mg_none_of X G z3, PySem.W.mg_none_of X G z4, PySem.W.mg_none_of X G z5, PySem.W.mg_none_of X G z6, PySem.W.mg_none_of X G z7, PySem.W.mg_none_of X G z8, PySem.W.mg_none_of X G z9, PySem.W.mg_none_of X G z10, PySem.W.mg_none_of X G z11, PySem.W.mg_none_of X G z12⟩
  refine ⟨_, fun s v => by
    exact bindsE F10 (ps := ["script"]) (fun kV doc pm an cdv ct j us ws _ h2 h3 => bs1 (B := fun j us ws => bindArgs (PySem.W.fnOf "law" "law" (defArgs s_law) (defBody s_law) (defScope s_law) .none kV doc pm an cdv ct) ⟨us, ((["script"] : List Str).drop j).zip ws⟩ = pure ((["script"] : List Str).zip (us ++ ws))) (by intros; rfl) (by intros; rfl) j us ws h2 h3) 1 s [v] [] (by decide) rfl rfl, fun base _ _ => ?_⟩
  have O0 : Own l.prog w K mg base 1 "spoken_to" ["net", "house"] [false, false] F_spoken_to := own_spoken_to Z F0 (PySem.W.mg_of X G a0) 
  have O1 : Own l.prog w K mg base 2 "short_trails" ["net", "start", "end", "most"] [false, false, false, false] F_short_trails := own_short_trails Z F1 (PySem.W.mg_of X G a1) O0
  have O2 : Own l.prog w K mg base 1 "_law_take" ["box", "many"] [true, false] F__law_take := own__law_take Z F2 (PySem.W.mg_of X G a2) 
  have O3 : Own l.prog w K mg base 2 "_law_pick" ["box", "some"] [true, false] F__law_pick := own__law_pick Z F3 (PySem.W.mg_of X G a3) O2
  have O4 : Own l.prog w K mg base 1 "_law_like" ["told", "due"] [false, false] F__law_like := own__law_like Z F4 (PySem.W.mg_of X G a4) 
  have O5 : Own l.prog w K mg base 3 "_law_net" ["box", "many", "mutual"] [true, false, false] F__law_net := own__law_net Z F5 (PySem.W.mg_of X G a5) O3 O2
  have O6 : Own l.prog w K mg base 1 "_law_trails" ["net", "start", "end"] [false, false, false] F__law_trails := own__law_trails Z F6 (PySem.W.mg_of X G a6) 
  have O7 : Own l.prog w K mg base 3 "_law_ends" ["box", "net"] [true, false] F__law_ends := own__law_ends Z F7 (PySem.W.mg_of X G a7) O3 O2
  have O8 : Own l.prog w K mg base 2 "_law_short" ["net", "start", "end", "most"] [false, false, false, false] F__law_short := own__law_short Z F8 (PySem.W.mg_of X G a8) O6
  have O9 : Own l.prog w K mg base 1 "_law_box" ["script", "k"] [false, false] F__law_box := own__law_box Z F9 (PySem.W.mg_of X G a9) 
  exact (fnok_law Z F10 (PySem.W.mg_of X G a10) O9 O5 O7 O4 O1 O2 O8).imp (spL_of math)
end K00
open PySem PySem.W PyProof.Rows
set_option maxHeartbeats 0 in
theorem PySem.Challenge.cw_nonelearns_k00_short_trails_holds : PySem.Challenge.rw_nonelearns_k00_short_trails.Holds := by
  w_on; o_law; k_head; (case hw => w_witness2)
  k_fill
  refine L2.walk_of (l := PySem.Challenge.rw_nonelearns_k00_short_trails) (n := 63) (k := 4) (x := "script") (CX := fun w => L2.CX PySem.Challenge.rw_nonelearns_k00_short_trails.prog w) (sp := fun w => EE.spL _) rfl (by decide) rfl ⟨rfl, by decide, by decide⟩ (fun w h Y => PySem.W.kIn_of Y) ?F (fun _ _ a ns hl ho hS => ⟨a, ns, rfl, EE.sqZ_of hS ho, hl, fun _ => rfl⟩) (fun _ _ _ _ _ h => EE.cx_no h)
  case F =>
    intro w mg fa h KX G hmg
    refine' K00.all_mk KX G hmg ?a0 ?l0 ?c0 ?k0 ?a1 ?l1 ?c1 ?k1 ?a2 ?l2 ?c2 ?k2 ?a3 ?l3 ?c3 ?k3 ?a4 ?l4 ?c4 ?k4 ?a5 ?l5 ?c5 ?k5 ?a6 ?l6 ?c6 ?k6 ?a7 ?l7 ?c7 ?k7 ?a8 ?l8 ?c8 ?k8 ?a9 ?l9 ?c9 ?k9 ?a10 ?l10 ?c10 ?k10 ?z0 ?z1 ?z2 ?z3 ?z4 ?z5 ?z6 ?z7 ?z8 ?z9 ?z10 ?z11 ?z12
    (case a0 => k_is); (case l0 => k_is); (case c0 => k_is); (case k0 => k_is)
    (case a1 => k_is); (case l1 => k_is); (case c1 => k_is); (case k1 => k_is)
    (case a2 => k_is); (case l2 => k_is); (case c2 => k_is); (case k2 => k_is)
    (case a3 => k_is); (case l3 => k_is); (case c3 => k_is); (case k3 => k_is)
    (case a4 => k_is); (case l4 => k_is); (case c4 => k_is); (case k4 => k_is)
    (case a5 => k_is); (case l5 => k_is); (case c5 => k_is); (case k5 => k_is)
    (case a6 => k_is); (case l6 => k_is); (case c6 => k_is); (case k6 => k_is)
    (case a7 => k_is); (case l7 => k_is); (case c7 => k_is); (case k7 => k_is)
    (case a8 => k_is); (case l8 => k_is); (case c8 => k_is); (case k8 => k_is)
    (case a9 => k_is); (case l9 => k_is); (case c9 => k_is); (case k9 => k_is)
    (case a10 => k_is); (case l10 => k_is); (case c10 => k_is); (case k10 => k_is)
    (case z0 => k_is); (case z1 => k_is); (case z2 => k_is); (case z3 => k_is); (case z4 => k_is); (case z5 => k_is); (case z6 => k_is); (case z7 => k_is); (case z8 => k_is); (case z9 => k_is); (case z10 => k_is); (case z11 => k_is); (case z12 => k_is)

